/- Texts of this claim, joined by program: part 5. -/
import Derived.Shelf.SlSortCmp.Whole1
import Derived.Ground.SlsfProg
import Derived.Test.YtlnddlmppngegaaGreatProg
import Derived.Shelf.SlSortCmp.NoneTotal
import Derived.Test.YtlnddlmppngegaaGreatY0
import Derived.Test.YtlnddlmppngegaaGreatYd
/- The reference of the integers: walks. -/
set_option linter.unusedVariables false
set_option linter.unusedSimpArgs false
set_option maxRecDepth 100000
namespace Go.Ev.S
open Go Go.Ev Go.Proofs NumA
theorem mk_te {b : Bool} {l : List Int} (h : U32 l) : te (ivI b l) = tz (b && decide (0 < (tr l).length)) (tr l) := by
  rw [tr_eq_en h, with_te (nv_nonneg h)]; rfl
def keep73 : Nat → List Nat := fun _ => []
noncomputable def sp73 : Nat → Option Spec := (more 90 (viewSpec g90) noneS)
theorem hs73 : ∀ f s, sp73 f = some s → SpecOk Tryz.prog f s := (more_ok s90 none_ok)
noncomputable def fu73 : List T → Nat := fun _ => 4398046511104
noncomputable def g73 : List T → Option Ret := fun ts => if ts.length = 2 then pureRun ty sp73 keep73 (fu73 ts) false Tryz.f73.results (Tryz.f73.body.getD .skip) ts else none
theorem s73 : SpecOk Tryz.prog 73 (viewSpec g73) := pure_ok mixed ty_ok hs73 Tryz.func73 rfl (by kernel_rfl) (enters_of Tryz.func73 (by kernel_rfl) rfl) keep73 fu73 false 2 (by decide)
set_option maxHeartbeats 4000000 in
theorem c73 {b : Bool} {l : List Int} (h : U32 l) (hl : l.length ≤ 1099511627776) : g73 [.v (.bool b), tn l] = some (.ts [te (ivI b l)]) := by
  have run : ∀ (fuel : Nat) (hf : 1099511627776 < fuel) (c : Code) (hc : Tryz.f73.body = some c), pureRun ty sp73 keep73 fuel false Tryz.f73.results c [.v (.bool b), tn l] = some (.ts [te (ivI b l)]) := by
   intro fuel hf c hc
   injection hc with hc
   subst hc
   have e1 := cn_length (tr l)
   have b1 := tr_length l
   rw [mk_te h]
   refine pure_wc ?_
   refine wsr ?_
   refine X_op' rfl (A_alloc rfl rfl) ?_
   refine X_endS ?_
   try dsimp only [St.put, szA, List.length, Nat.reduceAdd]
   refine wsr ?_
   refine xm rfl rfl rfl rfl ?_
   refine X_op' rfl (A_callV rfl rfl rfl rfl (.cons (V_t rfl) (K_t rfl) .nil) (c90 (by assumption) (by omega))) ?_
   refine xa rfl rfl rfl rfl ?_
   refine X_endS ?_
   try dsimp only [St.put, szA, List.length, Nat.reduceAdd]
   refine wsr ?_
   refine xm rfl rfl rfl rfl ?_
   refine xm rfl rfl rfl rfl ?_
   refine X_both (d := 9) rfl (fun hb1 => ?_) (fun hb1 => ?_)
   ·have khb1 := hb1; (try simp only [kb] at khb1)
    refine X_yes' rfl rfl rfl hb1 (A_mvT (.inl rfl) rfl rfl) ?_
    refine X_yes' rfl rfl rfl hb1 (A_lenT rfl rfl rfl rfl rfl rfl rfl) ?_
    refine X_yes' rfl rfl rfl hb1 (A_int rfl rfl rfl ⟨by decide, by decide⟩ rfl) ?_
    refine X_op' rfl (A_pickT rfl rfl hb1 rfl) ?_
    refine xm rfl rfl rfl rfl ?_
    refine X_op' rfl (A_build rfl rfl rfl (.cons (V_t rfl) (K_t rfl) (.cons (V_t rfl) (K_t rfl) .nil)) rfl rfl rfl) ?_
    refine X_op' rfl (A_stV rfl rfl rfl (V_t rfl) (K_t rfl) rfl rfl rfl rfl rfl rfl rfl) ?_
    refine X_endS ?_
    try dsimp only [St.put, szA, List.length, Nat.reduceAdd]
    refine W_ret ?_
    have hr : (b && decide (0 < (tr l).length)) = decide (((cn (tr l)).length : Int) > 0) := by rw [hb1, Bool.true_and, e1]; congr 1; simp
    rw [hr]
    exact end_R rfl (.c rfl (ld_mp rfl rfl rfl rfl rfl rfl) .nil)
   ·have khb1 := hb1; (try simp only [kb] at khb1)
    refine X_no1 rfl rfl rfl hb1 ?_
    refine X_no1 rfl rfl rfl hb1 ?_
    refine X_no1 rfl rfl rfl hb1 ?_
    refine X_op' rfl (A_pickF rfl rfl hb1 rfl) ?_
    refine xm rfl rfl rfl rfl ?_
    refine X_op' rfl (A_build rfl rfl rfl (.cons (V_t rfl) (K_t rfl) (.cons (V_t rfl) (K_t rfl) .nil)) rfl rfl rfl) ?_
    refine X_op' rfl (A_stV rfl rfl rfl (V_t rfl) (K_t rfl) rfl rfl rfl rfl rfl rfl rfl) ?_
    refine X_endS ?_
    try dsimp only [St.put, szA, List.length, Nat.reduceAdd]
    refine W_ret ?_
    have hr : (b && decide (0 < (tr l).length)) = false := by rw [hb1, Bool.false_and]
    rw [hr]
    exact end_R rfl (.c rfl (ld_mp rfl rfl rfl rfl rfl rfl) .nil)
  exact (if_pos rfl).trans (run _ (by simp only [fu73]; omega) _ rfl)
def keep55 : Nat → List Nat := fun _ => []
noncomputable def sp55 : Nat → Option Spec := (more 73 (viewSpec g73) noneS)
theorem hs55 : ∀ f s, sp55 f = some s → SpecOk Tryz.prog f s := (more_ok s73 none_ok)
noncomputable def fu55 : List T → Nat := fun _ => 4398046511104
noncomputable def g55 : List T → Option Ret := fun ts => if ts.length = 1 then pureRun ty sp55 keep55 (fu55 ts) false Tryz.f55.results (Tryz.f55.body.getD .skip) ts else none
theorem s55 : SpecOk Tryz.prog 55 (viewSpec g55) := pure_ok mixed ty_ok hs55 Tryz.func55 rfl (by kernel_rfl) (enters_of Tryz.func55 (by kernel_rfl) rfl) keep55 fu55 false 1 (by decide)
set_option maxHeartbeats 4000000 in
theorem c55 {b : Bool} {l : List Int} (h : U32 l) (hl : l.length ≤ 1099511627776) : g55 [tz b l] = some (.ts [te (ivI b l)]) := by
  have run : ∀ (fuel : Nat) (hf : 1099511627776 < fuel) (c : Code) (hc : Tryz.f55.body = some c), pureRun ty sp55 keep55 fuel false Tryz.f55.results c [tz b l] = some (.ts [te (ivI b l)]) := by
   intro fuel hf c hc
   injection hc with hc
   subst hc
   refine pure_wc ?_
   refine wsr ?_
   refine X_op' rfl (A_box rfl rfl (V_t rfl) (K_t rfl) rfl rfl rfl) ?_
   refine X_op' rfl (A_alloc rfl rfl) ?_
   refine X_endS ?_
   try dsimp only [St.put, szA, List.length, Nat.reduceAdd]
   refine wsr ?_
   refine X_op' rfl (A_faM rfl rfl rfl rfl rfl) ?_
   refine X_op' rfl (A_ld rfl rfl rfl (ld_fd1 rfl rfl rfl rfl rfl rfl rfl)) ?_
   refine X_op' rfl (A_faM rfl rfl rfl rfl rfl) ?_
   refine X_op' rfl (A_ld rfl rfl rfl (ld_fd1 rfl rfl rfl rfl rfl rfl rfl)) ?_
   refine X_op' rfl (A_callV rfl rfl rfl rfl (.cons (V_t rfl) (K_t rfl) (.cons (V_t rfl) (K_t rfl) .nil)) (c73 (by first | assumption | exact U32_en _) (by omega))) ?_
   refine X_op' rfl (A_stV rfl rfl rfl (V_t rfl) (K_t rfl) rfl rfl rfl rfl rfl rfl rfl) ?_
   refine X_endS ?_
   try dsimp only [St.put, szA, List.length, Nat.reduceAdd]
   refine W_ret ?_
   exact end_R rfl (.c rfl (ld_mp rfl rfl rfl rfl rfl rfl) .nil)
  exact (if_pos rfl).trans (run _ (by simp only [fu55]; omega) _ rfl)
def keep43 : Nat → List Nat := fun _ => []
noncomputable def sp43 : Nat → Option Spec := (more 77 (viewSpec g77) (more 73 (viewSpec g73) noneS))
theorem hs43 : ∀ f s, sp43 f = some s → SpecOk Tryz.prog f s := (more_ok s77 (more_ok s73 none_ok))
noncomputable def fu43 : List T → Nat := fun _ => 4398046511104
noncomputable def g43 : List T → Option Ret := fun ts => if ts.length = 1 then pureRun ty sp43 keep43 (fu43 ts) false Tryz.f43.results (Tryz.f43.body.getD .skip) ts else none
theorem s43 : SpecOk Tryz.prog 43 (viewSpec g43) := pure_ok mixed ty_ok hs43 Tryz.func43 rfl (by kernel_rfl) (enters_of Tryz.func43 (by kernel_rfl) rfl) keep43 fu43 false 1 (by decide)
set_option maxHeartbeats 4000000 in
theorem c43 {v : Int} (h0 : -9223372036854775808 ≤ v) (h1 : v < 9223372036854775808) : g43 [.v (.int .i64 v)] = some (.ts [te v]) := by
  have run : ∀ (fuel : Nat) (hf : 1099511627776 < fuel) (c : Code) (hc : Tryz.f43.body = some c), pureRun ty sp43 keep43 fuel false Tryz.f43.results c [.v (.int .i64 v)] = some (.ts [te v]) := by
   intro fuel hf c hc
   injection hc with hc
   subst hc
   refine pure_wc ?_
   refine wsr ?_
   refine X_op' rfl (A_alloc rfl rfl) ?_
   refine X_endS ?_
   try dsimp only [St.put, szA, List.length, Nat.reduceAdd]
   refine W_seq ?_
   refine wsr ?_
   refine xm rfl rfl rfl rfl ?_
   refine X_op' rfl (A_int rfl rfl rfl ⟨by decide, by decide⟩ rfl) ?_
   refine X_endS ?_
   try dsimp only [St.put, szA, List.length, Nat.reduceAdd]
   refine W_condB rfl (fun hb1 => ?_) (fun hb1 => ?_)
   ·have khb1 := hb1; (try simp only [kb] at khb1)
    refine wsr ?_
    refine xm rfl rfl rfl rfl ?_
    refine X_op' rfl (A_int rfl rfl rfl ⟨by decide, by decide⟩ (addI (by omega))) ?_
    refine X_op' rfl (A_neg rfl rfl) ?_
    refine X_op' rfl (A_conv rfl rfl rfl rfl rfl (show IntKind.u64.wrap (IntKind.i64.wrap (0 - (v + 1))) = -(v + 1) by rw [wI (by omega) (by omega), wU (by omega) (by omega)]; omega)) ?_
    refine X_op' rfl (A_int rfl rfl rfl ⟨by decide, by decide⟩ (addU (by omega))) ?_
    refine X_op' rfl (A_callV rfl rfl rfl rfl (.cons (V_t rfl) (K_t rfl) .nil) (c77 (by omega) (by omega))) ?_
    refine X_op' rfl (A_callV rfl rfl rfl rfl (.cons (V_t rfl) (K_t rfl) (.cons (V_t rfl) (K_t rfl) .nil)) ((c73 (U32_en _) (by have := en_length (z := -(v + 1) + 1) (k := 2) (by rw [P2]; omega); omega)).trans (show some (Ret.ts [te (ivI true (en (-(v + 1) + 1)))]) = some (Ret.ts [te v]) by rw [show ivI true (en (-(v + 1) + 1)) = v by unfold ivI; rw [if_pos rfl, nv_en (by omega)]; omega]))) ?_
    refine X_op' rfl (A_stV rfl rfl rfl (V_t rfl) (K_t rfl) rfl rfl rfl rfl rfl rfl rfl) ?_
    refine X_endS ?_
    try dsimp only [St.put, szA, List.length, Nat.reduceAdd]
    refine W_ret ?_
    refine Q_seqX ?_
    exact end_R rfl (.c rfl (ld_mp rfl rfl rfl rfl rfl rfl) .nil)
   ·have khb1 := hb1; (try simp only [kb] at khb1)
    refine W_skip ?_
    refine Q_seq ?_
    refine wsr ?_
    refine xm rfl rfl rfl rfl ?_
    refine X_op' rfl (A_conv rfl rfl rfl rfl rfl (wU (by omega) (by omega))) ?_
    refine X_op' rfl (A_callV rfl rfl rfl rfl (.cons (V_t rfl) (K_t rfl) .nil) (c77 (by omega) (by omega))) ?_
    refine X_op' rfl (A_callV rfl rfl rfl rfl (.cons (V_t rfl) (K_t rfl) (.cons (V_t rfl) (K_t rfl) .nil)) ((c73 (U32_en _) (by have := en_length (z := v) (k := 2) (by rw [P2]; omega); omega)).trans (show some (Ret.ts [te (ivI false (en v))]) = some (Ret.ts [te v]) by rw [show ivI false (en v) = v from nv_en (by omega)]))) ?_
    refine X_op' rfl (A_stV rfl rfl rfl (V_t rfl) (K_t rfl) rfl rfl rfl rfl rfl rfl rfl) ?_
    refine X_endS ?_
    try dsimp only [St.put, szA, List.length, Nat.reduceAdd]
    refine W_ret ?_
    exact end_R rfl (.c rfl (ld_mp rfl rfl rfl rfl rfl rfl) .nil)
  exact (if_pos rfl).trans (run _ (by simp only [fu43]; omega) _ rfl)
theorem te_mag_nil {x : Int} : (en (if x < 0 then -x else x)).length = 0 ↔ x = 0 := by
  rw [en_nil_of_length (by split <;> omega)]; split <;> omega
def keep58 : Nat → List Nat := fun _ => []
noncomputable def sp58 : Nat → Option Spec := (more 55 (viewSpec g55) noneS)
theorem hs58 : ∀ f s, sp58 f = some s → SpecOk Tryz.prog f s := (more_ok s55 none_ok)
noncomputable def fu58 : List T → Nat := fun _ => 4398046511104
noncomputable def g58 : List T → Option Ret := fun ts => if ts.length = 1 then pureRun ty sp58 keep58 (fu58 ts) false Tryz.f58.results (Tryz.f58.body.getD .skip) ts else none
theorem s58 : SpecOk Tryz.prog 58 (viewSpec g58) := pure_ok mixed ty_ok hs58 Tryz.func58 rfl (by kernel_rfl) (enters_of Tryz.func58 (by kernel_rfl) rfl) keep58 fu58 false 1 (by decide)
set_option maxHeartbeats 4000000 in
theorem c58 {b : Bool} {l : List Int} (h : U32 l) (hl : l.length ≤ 1099511627776) : g58 [tz b l] = some (.ts [.v (.int .i64 (sgI (ivI b l)))]) := by
  have run : ∀ (fuel : Nat) (hf : 1099511627776 < fuel) (c : Code) (hc : Tryz.f58.body = some c), pureRun ty sp58 keep58 fuel false Tryz.f58.results c [tz b l] = some (.ts [.v (.int .i64 (sgI (ivI b l)))]) := by
   intro fuel hf c hc
   injection hc with hc
   subst hc
   have ecn := cn_length (en (if ivI b l < 0 then -ivI b l else ivI b l))
   have hz := te_mag_nil (x := ivI b l)
   refine pure_wc ?_
   refine wsr ?_
   refine X_op' rfl (A_box rfl rfl (V_t rfl) (K_t rfl) rfl rfl rfl) ?_
   refine xa rfl rfl rfl rfl ?_
   refine X_endS ?_
   try dsimp only [St.put, szA, List.length, Nat.reduceAdd]
   refine wsr ?_
   refine X_op' rfl (A_ld rfl rfl rfl (ld_mp rfl rfl rfl rfl rfl rfl)) ?_
   refine X_op' rfl (A_callV rfl rfl rfl rfl (.cons (V_t rfl) (K_t rfl) .nil) (c55 (by first | assumption | exact U32_en _) (by omega))) ?_
   refine X_op' rfl (A_stV rfl rfl rfl (V_t rfl) (K_t rfl) rfl rfl rfl rfl rfl rfl rfl) ?_
   refine X_endS ?_
   try dsimp only [St.put, szA, List.length, Nat.reduceAdd]
   refine W_seq ?_
   refine W_blk ?_
   refine wsr ?_
   refine X_op' rfl (A_faM rfl rfl rfl rfl rfl) ?_
   refine X_op' rfl (A_ld rfl rfl rfl (ld_fd1 rfl rfl rfl rfl rfl rfl rfl)) ?_
   refine xa rfl rfl rfl rfl ?_
   refine X_endS ?_
   try dsimp only [St.put, szA, List.length, Nat.reduceAdd]
   refine W_condB rfl (fun hb1 => ?_) (fun hb1 => ?_)
   ·have khb1 := hb1; (try simp only [kb] at khb1)
    refine wsr ?_
    refine xa rfl rfl rfl rfl ?_
    refine X_endS ?_
    try dsimp only [St.put, szA, List.length, Nat.reduceAdd]
    refine W_ret ?_
    refine Q_blkR ?_
    refine Q_seqX ?_
    rw [show sgI (ivI b l) = -1 by rw [sgI, if_neg (by omega), if_pos khb1]]
    exact end_R rfl (.t rfl .nil)
   ·have khb1 := hb1; (try simp only [kb] at khb1)
    refine wsr ?_
    refine X_op' rfl (A_faM rfl rfl rfl rfl rfl) ?_
    refine X_op' rfl (A_ld rfl rfl rfl (ld_fd1 rfl rfl rfl rfl rfl rfl rfl)) ?_
    refine X_op' rfl (A_lenT rfl rfl rfl rfl rfl rfl rfl) ?_
    refine X_op' rfl (A_int rfl rfl rfl ⟨by decide, by decide⟩ rfl) ?_
    refine xa rfl rfl rfl rfl ?_
    refine X_endS ?_
    try dsimp only [St.put, szA, List.length, Nat.reduceAdd]
    refine W_condB rfl (fun hb2 => ?_) (fun hb2 => ?_)
    ·have khb2 := hb2; (try simp only [kb] at khb2)
     refine wsr ?_
     refine xa rfl rfl rfl rfl ?_
     refine X_endS ?_
     try dsimp only [St.put, szA, List.length, Nat.reduceAdd]
     refine W_ret ?_
     refine Q_blkR ?_
     refine Q_seqX ?_
     rw [show sgI (ivI b l) = 0 from if_pos (hz.1 (by omega))]
     exact end_R rfl (.t rfl .nil)
    ·have khb2 := hb2; (try simp only [kb] at khb2)
     refine W_skip ?_
     refine Q_blkN ?_
     refine Q_seq ?_
     refine wsr ?_
     refine xa rfl rfl rfl rfl ?_
     refine X_endS ?_
     try dsimp only [St.put, szA, List.length, Nat.reduceAdd]
     refine W_ret ?_
     rw [show sgI (ivI b l) = 1 by rw [sgI, if_neg (fun e => by have := hz.2 e; omega), if_neg (by omega)]]
     exact end_R rfl (.t rfl .nil)
  exact (if_pos rfl).trans (run _ (by simp only [fu58]; omega) _ rfl)
def keep54 : Nat → List Nat := fun _ => []
noncomputable def sp54 : Nat → Option Spec := (more 73 (viewSpec g73) noneS)
theorem hs54 : ∀ f s, sp54 f = some s → SpecOk Tryz.prog f s := (more_ok s73 none_ok)
noncomputable def fu54 : List T → Nat := fun _ => 4398046511104
noncomputable def g54 : List T → Option Ret := fun ts => if ts.length = 1 then pureRun ty sp54 keep54 (fu54 ts) false Tryz.f54.results (Tryz.f54.body.getD .skip) ts else none
theorem s54 : SpecOk Tryz.prog 54 (viewSpec g54) := pure_ok mixed ty_ok hs54 Tryz.func54 rfl (by kernel_rfl) (enters_of Tryz.func54 (by kernel_rfl) rfl) keep54 fu54 false 1 (by decide)
set_option maxHeartbeats 4000000 in
theorem c54 {b : Bool} {l : List Int} (h : U32 l) (hl : l.length ≤ 1099511627776) : g54 [tz b l] = some (.ts [te (- ivI b l)]) := by
  have run : ∀ (fuel : Nat) (hf : 1099511627776 < fuel) (c : Code) (hc : Tryz.f54.body = some c), pureRun ty sp54 keep54 fuel false Tryz.f54.results c [tz b l] = some (.ts [te (- ivI b l)]) := by
   intro fuel hf c hc
   injection hc with hc
   subst hc
   refine pure_wc ?_
   refine wsr ?_
   refine X_op' rfl (A_box rfl rfl (V_t rfl) (K_t rfl) rfl rfl rfl) ?_
   refine X_op' rfl (A_alloc rfl rfl) ?_
   refine X_endS ?_
   try dsimp only [St.put, szA, List.length, Nat.reduceAdd]
   refine wsr ?_
   refine X_op' rfl (A_faM rfl rfl rfl rfl rfl) ?_
   refine X_op' rfl (A_ld rfl rfl rfl (ld_fd1 rfl rfl rfl rfl rfl rfl rfl)) ?_
   refine X_op' rfl (A_not rfl rfl) ?_
   refine X_op' rfl (A_faM rfl rfl rfl rfl rfl) ?_
   refine X_op' rfl (A_ld rfl rfl rfl (ld_fd1 rfl rfl rfl rfl rfl rfl rfl)) ?_
   refine X_op' rfl (A_callV rfl rfl rfl rfl (.cons (V_t rfl) (K_t rfl) (.cons (V_t rfl) (K_t rfl) .nil)) ((c73 h hl).trans (show some (Ret.ts [te (ivI (!b) l)]) = some (Ret.ts [te (- ivI b l)]) by rw [show ivI (!b) l = - ivI b l by unfold ivI; cases b <;> simp]))) ?_
   refine X_op' rfl (A_stV rfl rfl rfl (V_t rfl) (K_t rfl) rfl rfl rfl rfl rfl rfl rfl) ?_
   refine X_endS ?_
   try dsimp only [St.put, szA, List.length, Nat.reduceAdd]
   refine W_ret ?_
   exact end_R rfl (.c rfl (ld_mp rfl rfl rfl rfl rfl rfl) .nil)
  exact (if_pos rfl).trans (run _ (by simp only [fu54]; omega) _ rfl)
def keep92 : Nat → List Nat := fun _ => []
noncomputable def sp92 : Nat → Option Spec := (more 73 (viewSpec g73) noneS)
theorem hs92 : ∀ f s, sp92 f = some s → SpecOk Tryz.prog f s := (more_ok s73 none_ok)
noncomputable def fu92 : List T → Nat := fun _ => 4398046511104
noncomputable def g92 : List T → Option Ret := fun ts => if ts.length = 1 then pureRun ty sp92 keep92 (fu92 ts) false Tryz.f92.results (Tryz.f92.body.getD .skip) ts else none
theorem s92 : SpecOk Tryz.prog 92 (viewSpec g92) := pure_ok mixed ty_ok hs92 Tryz.func92 rfl (by kernel_rfl) (enters_of Tryz.func92 (by kernel_rfl) rfl) keep92 fu92 false 1 (by decide)
set_option maxHeartbeats 4000000 in
theorem c92 {b : Bool} {l : List Int} (h : U32 l) (hl : l.length ≤ 1099511627776) : g92 [tz b l] = some (.ts [te (nv l)]) := by
  have run : ∀ (fuel : Nat) (hf : 1099511627776 < fuel) (c : Code) (hc : Tryz.f92.body = some c), pureRun ty sp92 keep92 fuel false Tryz.f92.results c [tz b l] = some (.ts [te (nv l)]) := by
   intro fuel hf c hc
   injection hc with hc
   subst hc
   refine pure_wc ?_
   refine wsr ?_
   refine X_op' rfl (A_box rfl rfl (V_t rfl) (K_t rfl) rfl rfl rfl) ?_
   refine X_op' rfl (A_alloc rfl rfl) ?_
   refine X_endS ?_
   try dsimp only [St.put, szA, List.length, Nat.reduceAdd]
   refine wsr ?_
   refine X_op' rfl (A_faM rfl rfl rfl rfl rfl) ?_
   refine X_op' rfl (A_ld rfl rfl rfl (ld_fd1 rfl rfl rfl rfl rfl rfl rfl)) ?_
   refine X_op' rfl (A_callV rfl rfl rfl rfl (.cons (V_t rfl) (K_t rfl) (.cons (V_t rfl) (K_t rfl) .nil)) (c73 h hl)) ?_
   refine X_op' rfl (A_stV rfl rfl rfl (V_t rfl) (K_t rfl) rfl rfl rfl rfl rfl rfl rfl) ?_
   refine X_endS ?_
   try dsimp only [St.put, szA, List.length, Nat.reduceAdd]
   refine W_ret ?_
   exact end_R rfl (.c rfl (ld_mp rfl rfl rfl rfl rfl rfl) .nil)
  exact (if_pos rfl).trans (run _ (by simp only [fu92]; omega) _ rfl)
def keep40 : Nat → List Nat := fun _ => []
noncomputable def sp40 : Nat → Option Spec := (more 74 (viewSpec g74) (more 73 (viewSpec g73) (more 75 (viewSpec g75) noneS)))
theorem hs40 : ∀ f s, sp40 f = some s → SpecOk Tryz.prog f s := (more_ok s74 (more_ok s73 (more_ok s75 none_ok)))
noncomputable def fu40 : List T → Nat := fun _ => 4398046511104
noncomputable def g40 : List T → Option Ret := fun ts => if ts.length = 2 then pureRun ty sp40 keep40 (fu40 ts) false Tryz.f40.results (Tryz.f40.body.getD .skip) ts else none
theorem s40 : SpecOk Tryz.prog 40 (viewSpec g40) := pure_ok mixed ty_ok hs40 Tryz.func40 rfl (by kernel_rfl) (enters_of Tryz.func40 (by kernel_rfl) rfl) keep40 fu40 false 2 (by decide)
set_option maxHeartbeats 4000000 in
theorem c40 {b d : Bool} {l k : List Int} (h : U32 l) (hl : l.length ≤ 1099511627774) (h' : U32 k) (hk : k.length ≤ 1099511627774) : g40 [tz b l, tz d k] = some (.ts [te (ivI b l + ivI d k)]) := by
  have run : ∀ (fuel : Nat) (hf : 1099511627776 < fuel) (c : Code) (hc : Tryz.f40.body = some c), pureRun ty sp40 keep40 fuel false Tryz.f40.results c [tz b l, tz d k] = some (.ts [te (ivI b l + ivI d k)]) := by
   intro fuel hf c hc
   injection hc with hc
   subst hc
   have p1 := nv_nonneg h
   have p2 := nv_nonneg h'
   have q1 := lt_P h (n := l.length) (by omega)
   have q2 := lt_P h' (n := k.length) (by omega)
   have hA := add_len (lt_P h (Nat.le_max_left l.length k.length)) (lt_P h' (Nat.le_max_right l.length k.length))
   have hA2 : (en (nv l + nv k)).length ≤ 1099511627775 := by omega
   have hS : ∀ {l k : List Int}, U32 l → U32 k → U32 (if nv k ≤ nv l then en (nv l - nv k) else []) ∧ (if nv k ≤ nv l then en (nv l - nv k) else []).length ≤ l.length := fun {l k} h h' => by
     have p2 := nv_nonneg h'
     have q1 := lt_P h (n := l.length) (by omega)
     split
     · exact ⟨U32_en _, en_length (by omega)⟩
     · exact ⟨U32_nil, by simp⟩
   have hS1 := hS h h'
   have hS2 := hS h' h
   refine pure_wc ?_
   refine wsr ?_
   refine X_op' rfl (A_box rfl rfl (V_t rfl) (K_t rfl) rfl rfl rfl) ?_
   refine X_op' rfl (A_box rfl rfl (V_t rfl) (K_t rfl) rfl rfl rfl) ?_
   refine X_op' rfl (A_alloc rfl rfl) ?_
   refine X_endS ?_
   try dsimp only [St.put, szA, List.length, Nat.reduceAdd]
   refine W_seq ?_
   refine wsr ?_
   refine X_op' rfl (A_faM rfl rfl rfl rfl rfl) ?_
   refine X_op' rfl (A_ld rfl rfl rfl (ld_fd1 rfl rfl rfl rfl rfl rfl rfl)) ?_
   refine X_op' rfl (A_faM rfl rfl rfl rfl rfl) ?_
   refine X_op' rfl (A_ld rfl rfl rfl (ld_fd1 rfl rfl rfl rfl rfl rfl rfl)) ?_
   refine X_op' rfl (A_beq rfl rfl rfl rfl rfl) ?_
   refine X_endS ?_
   try dsimp only [St.put, szA, List.length, Nat.reduceAdd]
   refine W_condB rfl (fun hb3 => ?_) (fun hb3 => ?_)
   ·have khb3 := hb3; (try simp only [kb] at khb3)
    refine wsr ?_
    refine X_op' rfl (A_faM rfl rfl rfl rfl rfl) ?_
    refine X_op' rfl (A_ld rfl rfl rfl (ld_fd1 rfl rfl rfl rfl rfl rfl rfl)) ?_
    refine X_op' rfl (A_faM rfl rfl rfl rfl rfl) ?_
    refine X_op' rfl (A_ld rfl rfl rfl (ld_fd1 rfl rfl rfl rfl rfl rfl rfl)) ?_
    refine X_op' rfl (A_faM rfl rfl rfl rfl rfl) ?_
    refine X_op' rfl (A_ld rfl rfl rfl (ld_fd1 rfl rfl rfl rfl rfl rfl rfl)) ?_
    refine X_op' rfl (A_callV rfl rfl rfl rfl (.cons (V_t rfl) (K_t rfl) (.cons (V_t rfl) (K_t rfl) .nil)) (c74 h (by omega) h' (by omega))) ?_
    refine X_op' rfl (A_callV rfl rfl rfl rfl (.cons (V_t rfl) (K_t rfl) (.cons (V_t rfl) (K_t rfl) .nil)) (c73 (U32_en _) (by omega))) ?_
    refine X_op' rfl (A_stV rfl rfl rfl (V_t rfl) (K_t rfl) rfl rfl rfl rfl rfl rfl rfl) ?_
    refine X_endDS (by kernel_rfl) (by kernel_rfl) ?_
    try dsimp only [St.put, szA, List.length, Nat.reduceAdd]
    refine W_ret ?_
    refine Q_seqX ?_
    have hr : te (ivI b l + ivI d k) = te (ivI b (en (nv l + nv k))) := by
      rw [← khb3]
      congr 1
      unfold ivI
      rw [nv_en (by omega)]
      split <;> omega
    rw [hr]
    exact end_R rfl (.c rfl (ld_mp rfl rfl rfl rfl rfl rfl) .nil)
   ·have khb3 := hb3; (try simp only [kb] at khb3)
    refine W_skip ?_
    refine Q_seq ?_
    refine W_seq ?_
    refine wsr ?_
    refine X_op' rfl (A_faM rfl rfl rfl rfl rfl) ?_
    refine X_op' rfl (A_ld rfl rfl rfl (ld_fd1 rfl rfl rfl rfl rfl rfl rfl)) ?_
    refine X_op' rfl (A_faM rfl rfl rfl rfl rfl) ?_
    refine X_op' rfl (A_ld rfl rfl rfl (ld_fd1 rfl rfl rfl rfl rfl rfl rfl)) ?_
    refine X_op' rfl (A_callV rfl rfl rfl rfl (.cons (V_t rfl) (K_t rfl) (.cons (V_t rfl) (K_t rfl) .nil)) ((c75 (by assumption) (by omega) (by assumption) (by omega)).trans (congrArg some (subR_eq _ _)))) ?_
    refine X_op' rfl (A_mvU (.inl rfl) rfl) ?_
    refine X_op' rfl (A_ext rfl rfl rfl) ?_
    refine X_op' rfl (A_ext rfl rfl rfl) ?_
    refine xa rfl rfl rfl rfl ?_
    refine xa rfl rfl rfl rfl ?_
    refine X_endS ?_
    try dsimp only [St.put, szA, List.length, Nat.reduceAdd]
    refine wsr ?_
    refine xm rfl rfl rfl rfl ?_
    refine X_endS ?_
    try dsimp only [St.put, szA, List.length, Nat.reduceAdd]
    refine W_condB rfl (fun hb5 => ?_) (fun hb5 => ?_)
    ·have khb5 := hb5; (try simp only [kb] at khb5)
     refine wsr ?_
     refine X_op' rfl (A_faM rfl rfl rfl rfl rfl) ?_
     refine X_op' rfl (A_ld rfl rfl rfl (ld_fd1 rfl rfl rfl rfl rfl rfl rfl)) ?_
     refine xm rfl rfl rfl rfl ?_
     refine X_op' rfl (A_callV rfl rfl rfl rfl (.cons (V_t rfl) (K_t rfl) (.cons (V_t rfl) (K_t rfl) .nil)) (c73 hS1.1 (by omega))) ?_
     refine X_op' rfl (A_stV rfl rfl rfl (V_t rfl) (K_t rfl) rfl rfl rfl rfl rfl rfl rfl) ?_
     refine X_endS ?_
     try dsimp only [St.put, szA, List.length, Nat.reduceAdd]
     refine W_ret ?_
     refine Q_seqX ?_
     have hr : te (ivI b l + ivI d k) = te (ivI b (if nv k ≤ nv l then en (nv l - nv k) else [])) := by
       rw [if_pos khb5]
       congr 1
       unfold ivI
       rw [nv_en (by omega)]
       cases b <;> cases d <;> simp at khb3 ⊢ <;> omega
     rw [hr]
     exact end_R rfl (.c rfl (ld_mp rfl rfl rfl rfl rfl rfl) .nil)
    ·have khb5 := hb5; (try simp only [kb] at khb5)
     refine W_skip ?_
     refine Q_seq ?_
     refine wsr ?_
     refine X_op' rfl (A_faM rfl rfl rfl rfl rfl) ?_
     refine X_op' rfl (A_ld rfl rfl rfl (ld_fd1 rfl rfl rfl rfl rfl rfl rfl)) ?_
     refine X_op' rfl (A_faM rfl rfl rfl rfl rfl) ?_
     refine X_op' rfl (A_ld rfl rfl rfl (ld_fd1 rfl rfl rfl rfl rfl rfl rfl)) ?_
     refine X_op' rfl (A_callV rfl rfl rfl rfl (.cons (V_t rfl) (K_t rfl) (.cons (V_t rfl) (K_t rfl) .nil)) ((c75 (by assumption) (by omega) (by assumption) (by omega)).trans (congrArg some (subR_eq _ _)))) ?_
     refine X_op' rfl (A_mvU (.inl rfl) rfl) ?_
     refine X_op' rfl (A_ext rfl rfl rfl) ?_
     refine X_op' rfl (A_ext rfl rfl rfl) ?_
     refine xa rfl rfl rfl rfl ?_
     refine xa rfl rfl rfl rfl ?_
     refine X_endS ?_
     try dsimp only [St.put, szA, List.length, Nat.reduceAdd]
     refine wsr ?_
     refine X_op' rfl (A_faM rfl rfl rfl rfl rfl) ?_
     refine X_op' rfl (A_ld rfl rfl rfl (ld_fd1 rfl rfl rfl rfl rfl rfl rfl)) ?_
     refine xm rfl rfl rfl rfl ?_
     refine X_op' rfl (A_callV rfl rfl rfl rfl (.cons (V_t rfl) (K_t rfl) (.cons (V_t rfl) (K_t rfl) .nil)) (c73 hS2.1 (by omega))) ?_
     refine X_op' rfl (A_stV rfl rfl rfl (V_t rfl) (K_t rfl) rfl rfl rfl rfl rfl rfl rfl) ?_
     refine X_endS ?_
     try dsimp only [St.put, szA, List.length, Nat.reduceAdd]
     refine W_ret ?_
     have hr : te (ivI b l + ivI d k) = te (ivI d (if nv l ≤ nv k then en (nv k - nv l) else [])) := by
       rw [if_pos (by omega)]
       congr 1
       unfold ivI
       rw [nv_en (by omega)]
       cases b <;> cases d <;> simp at khb3 ⊢ <;> omega
     rw [hr]
     exact end_R rfl (.c rfl (ld_mp rfl rfl rfl rfl rfl rfl) .nil)
  exact (if_pos rfl).trans (run _ (by simp only [fu40]; omega) _ rfl)
def keep93 : Nat → List Nat := fun _ => []
noncomputable def sp93 : Nat → Option Spec := (more 54 (viewSpec g54) (more 40 (viewSpec g40) noneS))
theorem hs93 : ∀ f s, sp93 f = some s → SpecOk Tryz.prog f s := (more_ok s54 (more_ok s40 none_ok))
noncomputable def fu93 : List T → Nat := fun _ => 4398046511104
noncomputable def g93 : List T → Option Ret := fun ts => if ts.length = 2 then pureRun ty sp93 keep93 (fu93 ts) false Tryz.f93.results (Tryz.f93.body.getD .skip) ts else none
theorem s93 : SpecOk Tryz.prog 93 (viewSpec g93) := pure_ok mixed ty_ok hs93 Tryz.func93 rfl (by kernel_rfl) (enters_of Tryz.func93 (by kernel_rfl) rfl) keep93 fu93 false 2 (by decide)
set_option maxHeartbeats 4000000 in
theorem c93 {b d : Bool} {l k : List Int} (h : U32 l) (hl : l.length ≤ 1099511627774) (h' : U32 k) (hk : k.length ≤ 1099511627774) : g93 [tz b l, tz d k] = some (.ts [te (ivI b l - ivI d k)]) := by
  have run : ∀ (fuel : Nat) (hf : 1099511627776 < fuel) (c : Code) (hc : Tryz.f93.body = some c), pureRun ty sp93 keep93 fuel false Tryz.f93.results c [tz b l, tz d k] = some (.ts [te (ivI b l - ivI d k)]) := by
   intro fuel hf c hc
   injection hc with hc
   subst hc
   have q1 : (en (if - ivI d k < 0 then - - ivI d k else - ivI d k)).length ≤ k.length := te_len (by rw [Int.natAbs_neg]; exact iv_lt_P h' (Nat.le_refl _))
   refine pure_wc ?_
   refine wsr ?_
   refine X_op' rfl (A_box rfl rfl (V_t rfl) (K_t rfl) rfl rfl rfl) ?_
   refine X_op' rfl (A_box rfl rfl (V_t rfl) (K_t rfl) rfl rfl rfl) ?_
   refine X_op' rfl (A_alloc rfl rfl) ?_
   refine X_endS ?_
   try dsimp only [St.put, szA, List.length, Nat.reduceAdd]
   refine wsr ?_
   refine X_op' rfl (A_ld rfl rfl rfl (ld_mp rfl rfl rfl rfl rfl rfl)) ?_
   refine X_op' rfl (A_ld rfl rfl rfl (ld_mp rfl rfl rfl rfl rfl rfl)) ?_
   refine X_op' rfl (A_callV rfl rfl rfl rfl (.cons (V_t rfl) (K_t rfl) .nil) (c54 h' (by omega))) ?_
   refine X_op' rfl (A_callV rfl rfl rfl rfl (.cons (V_t rfl) (K_t rfl) (.cons (V_t rfl) (K_t rfl) .nil)) ((c40 h (by omega) (U32_en _) (by omega)).trans (show some (Ret.ts [te (ivI b l + ivI (decide (- ivI d k < 0)) (en (if - ivI d k < 0 then - - ivI d k else - ivI d k)))]) = some (Ret.ts [te (ivI b l - ivI d k)]) by rw [iv_te, Int.sub_eq_add_neg]))) ?_
   refine X_op' rfl (A_stV rfl rfl rfl (V_t rfl) (K_t rfl) rfl rfl rfl rfl rfl rfl rfl) ?_
   refine X_endDS (by kernel_rfl) (by kernel_rfl) ?_
   try dsimp only [St.put, szA, List.length, Nat.reduceAdd]
   refine W_ret ?_
   exact end_R rfl (.c rfl (ld_mp rfl rfl rfl rfl rfl rfl) .nil)
  exact (if_pos rfl).trans (run _ (by simp only [fu93]; omega) _ rfl)
def keep41 : Nat → List Nat := fun _ => []
noncomputable def sp41 : Nat → Option Spec := (more 76 (viewSpec g76) (more 73 (viewSpec g73) noneS))
theorem hs41 : ∀ f s, sp41 f = some s → SpecOk Tryz.prog f s := (more_ok s76 (more_ok s73 none_ok))
noncomputable def fu41 : List T → Nat := fun _ => 4398046511104
noncomputable def g41 : List T → Option Ret := fun ts => if ts.length = 2 then pureRun ty sp41 keep41 (fu41 ts) false Tryz.f41.results (Tryz.f41.body.getD .skip) ts else none
theorem s41 : SpecOk Tryz.prog 41 (viewSpec g41) := pure_ok mixed ty_ok hs41 Tryz.func41 rfl (by kernel_rfl) (enters_of Tryz.func41 (by kernel_rfl) rfl) keep41 fu41 false 2 (by decide)
set_option maxHeartbeats 4000000 in
theorem c41 {b d : Bool} {l k : List Int} (h : U32 l) (hl : l.length ≤ 274877906944) (h' : U32 k) (hk : k.length ≤ 274877906944) : g41 [tz b l, tz d k] = some (.ts [te (ivI b l * ivI d k)]) := by
  have run : ∀ (fuel : Nat) (hf : 1099511627776 < fuel) (c : Code) (hc : Tryz.f41.body = some c), pureRun ty sp41 keep41 fuel false Tryz.f41.results c [tz b l, tz d k] = some (.ts [te (ivI b l * ivI d k)]) := by
   intro fuel hf c hc
   injection hc with hc
   subst hc
   have hm : 0 ≤ nv l * nv k := Int.mul_nonneg (nv_nonneg h) (nv_nonneg h')
   have hle : (en (nv l * nv k)).length ≤ l.length + k.length := en_length (mul_lt_P (nv_nonneg h) (nv_nonneg h') (nv_lt h) (nv_lt h'))
   refine pure_wc ?_
   refine wsr ?_
   refine X_op' rfl (A_box rfl rfl (V_t rfl) (K_t rfl) rfl rfl rfl) ?_
   refine X_op' rfl (A_box rfl rfl (V_t rfl) (K_t rfl) rfl rfl rfl) ?_
   refine X_op' rfl (A_alloc rfl rfl) ?_
   refine X_endS ?_
   try dsimp only [St.put, szA, List.length, Nat.reduceAdd]
   refine wsr ?_
   refine X_op' rfl (A_faM rfl rfl rfl rfl rfl) ?_
   refine X_op' rfl (A_ld rfl rfl rfl (ld_fd1 rfl rfl rfl rfl rfl rfl rfl)) ?_
   refine X_op' rfl (A_faM rfl rfl rfl rfl rfl) ?_
   refine X_op' rfl (A_ld rfl rfl rfl (ld_fd1 rfl rfl rfl rfl rfl rfl rfl)) ?_
   refine X_op' rfl (A_bne rfl rfl rfl rfl rfl) ?_
   refine X_op' rfl (A_faM rfl rfl rfl rfl rfl) ?_
   refine X_op' rfl (A_ld rfl rfl rfl (ld_fd1 rfl rfl rfl rfl rfl rfl rfl)) ?_
   refine X_op' rfl (A_faM rfl rfl rfl rfl rfl) ?_
   refine X_op' rfl (A_ld rfl rfl rfl (ld_fd1 rfl rfl rfl rfl rfl rfl rfl)) ?_
   refine X_op' rfl (A_callV rfl rfl rfl rfl (.cons (V_t rfl) (K_t rfl) (.cons (V_t rfl) (K_t rfl) .nil)) (c76 h hl h' hk)) ?_
   refine X_op' rfl (A_callV rfl rfl rfl rfl (.cons (V_t rfl) (K_t rfl) (.cons (V_t rfl) (K_t rfl) .nil)) (c73 (U32_en _) (by omega))) ?_
   refine X_op' rfl (A_stV rfl rfl rfl (V_t rfl) (K_t rfl) rfl rfl rfl rfl rfl rfl rfl) ?_
   refine X_endDS (by kernel_rfl) (by kernel_rfl) ?_
   try dsimp only [St.put, szA, List.length, Nat.reduceAdd]
   refine W_ret ?_
   have hr : te (ivI b l * ivI d k) = te (ivI (b != d) (en (nv l * nv k))) := by
     congr 1
     unfold ivI
     rw [nv_en hm]
     cases b <;> cases d <;> simp [Int.neg_mul, Int.mul_neg]
   rw [hr]
   exact end_R rfl (.c rfl (ld_mp rfl rfl rfl rfl rfl rfl) .nil)
  exact (if_pos rfl).trans (run _ (by simp only [fu41]; omega) _ rfl)
theorem igcd_le_max {x d : Int} (hx : 0 ≤ x) (hd : 0 ≤ d) : igcd x d ≤ max x d := by
  rcases Int.lt_or_le 0 d with h | h
  · have := igcd_le (x := x) h; omega
  · rw [show d = 0 by omega, igcd_zero x hx]; omega
def keep72 : Nat → List Nat := fun _ => []
noncomputable def sp72 : Nat → Option Spec := (more 106 (viewSpec g106) (more 73 (viewSpec g73) noneS))
theorem hs72 : ∀ f s, sp72 f = some s → SpecOk Tryz.prog f s := (more_ok s106 (more_ok s73 none_ok))
noncomputable def fu72 : List T → Nat := fun _ => 4398046511104
noncomputable def g72 : List T → Option Ret := fun ts => if ts.length = 2 then pureRun ty sp72 keep72 (fu72 ts) false Tryz.f72.results (Tryz.f72.body.getD .skip) ts else none
theorem s72 : SpecOk Tryz.prog 72 (viewSpec g72) := pure_ok mixed ty_ok hs72 Tryz.func72 rfl (by kernel_rfl) (enters_of Tryz.func72 (by kernel_rfl) rfl) keep72 fu72 false 2 (by decide)
set_option maxHeartbeats 4000000 in
theorem c72 {b d : Bool} {l k : List Int} (h : U32 l) (hl : l.length ≤ 17179869184) (h' : U32 k) (hk : k.length ≤ 17179869184) : g72 [tz b l, tz d k] = some (.ts [te (igcd (nv l) (nv k))]) := by
  have run : ∀ (fuel : Nat) (hf : 1099511627776 < fuel) (c : Code) (hc : Tryz.f72.body = some c), pureRun ty sp72 keep72 fuel false Tryz.f72.results c [tz b l, tz d k] = some (.ts [te (igcd (nv l) (nv k))]) := by
   intro fuel hf c hc
   injection hc with hc
   subst hc
   have hg0 := igcd_nonneg (nv l) (nv k)
   have hgl : igcd (nv l) (nv k) ≤ max (nv l) (nv k) := igcd_le_max (nv_nonneg h) (nv_nonneg h')
   have hle : (en (igcd (nv l) (nv k))).length ≤ max l.length k.length := en_length (by have a1 := lt_P h (Nat.le_max_left l.length k.length); have a2 := lt_P h' (Nat.le_max_right l.length k.length); omega)
   refine pure_wc ?_
   refine wsr ?_
   refine X_op' rfl (A_box rfl rfl (V_t rfl) (K_t rfl) rfl rfl rfl) ?_
   refine X_op' rfl (A_box rfl rfl (V_t rfl) (K_t rfl) rfl rfl rfl) ?_
   refine X_op' rfl (A_alloc rfl rfl) ?_
   refine X_endS ?_
   try dsimp only [St.put, szA, List.length, Nat.reduceAdd]
   refine wsr ?_
   refine X_op' rfl (A_faM rfl rfl rfl rfl rfl) ?_
   refine X_op' rfl (A_ld rfl rfl rfl (ld_fd1 rfl rfl rfl rfl rfl rfl rfl)) ?_
   refine X_op' rfl (A_faM rfl rfl rfl rfl rfl) ?_
   refine X_op' rfl (A_ld rfl rfl rfl (ld_fd1 rfl rfl rfl rfl rfl rfl rfl)) ?_
   refine X_op' rfl (A_callV rfl rfl rfl rfl (.cons (V_t rfl) (K_t rfl) (.cons (V_t rfl) (K_t rfl) .nil)) (c106 h hl h' hk)) ?_
   refine X_op' rfl (A_callV rfl rfl rfl rfl (.cons (V_t rfl) (K_t rfl) (.cons (V_t rfl) (K_t rfl) .nil)) ((c73 (U32_en _) (by omega)).trans (show some (Ret.ts [te (ivI false (en (igcd (nv l) (nv k))))]) = some (Ret.ts [te (igcd (nv l) (nv k))]) by rw [show ivI false (en (igcd (nv l) (nv k))) = igcd (nv l) (nv k) from nv_en hg0]))) ?_
   refine X_op' rfl (A_stV rfl rfl rfl (V_t rfl) (K_t rfl) rfl rfl rfl rfl rfl rfl rfl) ?_
   refine X_endS ?_
   try dsimp only [St.put, szA, List.length, Nat.reduceAdd]
   refine W_ret ?_
   exact end_R rfl (.c rfl (ld_mp rfl rfl rfl rfl rfl rfl) .nil)
  exact (if_pos rfl).trans (run _ (by simp only [fu72]; omega) _ rfl)
theorem dm3 {b : Bool} {n R : Int} (eR : R = if b = true then -n else n) (h0 : 0 ≤ n) (hR : 0 ≤ R) : n = R := by
  split at eR <;> omega
theorem dm1 {b d : Bool} {q Q0 : Int} (eQ : Q0 = if (b != d) = true then -q else q) (hb : b = true) : (d = true → (if (b != d) = true then -(q + 1) else q + 1) = Q0 + 1) ∧ (d = false → (if (b != d) = true then -(q + 1) else q + 1) = Q0 - 1) := by
  subst hb
  constructor
  · rintro rfl; simp at eQ ⊢; omega
  · rintro rfl; simp at eQ ⊢; omega
def keep57 : Nat → List Nat := fun _ => []
noncomputable def sp57 : Nat → Option Spec := (more 91 (viewSpec g91) (more 73 (viewSpec g73) (more 92 (viewSpec g92) (more 40 (viewSpec g40) (more 43 (viewSpec g43) (more 93 (viewSpec g93) noneS))))))
theorem hs57 : ∀ f s, sp57 f = some s → SpecOk Tryz.prog f s := (more_ok s91 (more_ok s73 (more_ok s92 (more_ok s40 (more_ok s43 (more_ok s93 none_ok))))))
noncomputable def fu57 : List T → Nat := fun _ => 4398046511104
noncomputable def g57 : List T → Option Ret := fun ts => if ts.length = 2 then pureRun ty sp57 keep57 (fu57 ts) false Tryz.f57.results (Tryz.f57.body.getD .skip) ts else none
theorem s57 : SpecOk Tryz.prog 57 (viewSpec g57) := pure_ok mixed ty_ok hs57 Tryz.func57 rfl (by kernel_rfl) (enters_of Tryz.func57 (by kernel_rfl) rfl) keep57 fu57 false 2 (by decide)
set_option maxHeartbeats 4000000 in
theorem c57 {b d : Bool} {l k : List Int} (h : U32 l) (hl : l.length ≤ 17179869183) (h' : U32 k) (hk : k.length ≤ 17179869183) (h0 : nv k ≠ 0) : g57 [tz b l, tz d k] = some (.ts [te (ivI b l / ivI d k), te (ivI b l % ivI d k), .v (.bool true)]) := by
  have run : ∀ (fuel : Nat) (hf : 1099511627776 < fuel) (c : Code) (hc : Tryz.f57.body = some c), pureRun ty sp57 keep57 fuel false Tryz.f57.results c [tz b l, tz d k] = some (.ts [te (ivI b l / ivI d k), te (ivI b l % ivI d k), .v (.bool true)]) := by
   intro fuel hf c hc
   injection hc with hc
   subst hc
   have p1 := nv_nonneg h
   have p2 := nv_nonneg h'
   have q0 : 0 ≤ nv l / nv k := Int.ediv_nonneg p1 p2
   have q1 : nv l / nv k ≤ nv l := Int.ediv_le_self _ p1
   have m0 := Int.emod_nonneg (nv l) h0
   have m1 := Int.emod_lt_of_pos (nv l) (show 0 < nv k by omega)
   have t1 := lt_P h (Nat.le_refl _)
   have t2 := lt_P h' (Nat.le_refl _)
   have lq : (en (nv l / nv k)).length ≤ l.length := en_length (by omega)
   have lm : (en (nv l % nv k)).length ≤ k.length := en_length (by omega)
   have v1 := nv_en q0
   have v2 := nv_en m0
   obtain ⟨D1, D2⟩ := ivI_div (b := b) (d := d) h h' h0
   obtain ⟨Q0, hQ0⟩ : ∃ Q0 : Int, Q0 = ivI (b != d) (en (nv l / nv k)) := ⟨_, rfl⟩
   obtain ⟨R0, hR0⟩ : ∃ R0 : Int, R0 = ivI b (en (nv l % nv k)) := ⟨_, rfl⟩
   have aQ : (Q0.natAbs : Int) = nv l / nv k := by rw [hQ0, ivI_iv, iv_natAbs (U32_en _), v1]
   have aR : (R0.natAbs : Int) = nv l % nv k := by rw [hR0, ivI_iv, iv_natAbs (U32_en _), v2]
   have sR : R0 < 0 ↔ b = true ∧ nv l % nv k ≠ 0 := by rw [hR0, ivI_abs (U32_en _), v2]
   have eQ : Q0 = if (b != d) = true then -(nv l / nv k) else nv l / nv k := by rw [hQ0, ivI, v1]
   have eR : R0 = if b = true then -(nv l % nv k) else nv l % nv k := by rw [hR0, ivI, v2]
   have l1 : (en (if Q0 < 0 then -Q0 else Q0)).length ≤ l.length := te_len (by omega)
   have l2 : (en (if R0 < 0 then -R0 else R0)).length ≤ k.length := te_len (by omega)
   have l3 : (en (if nv k < 0 then -nv k else nv k)).length ≤ k.length := te_len (by omega)
   have l4 : (en (if (1 : Int) < 0 then -1 else 1)).length ≤ 1 := te_len (by rw [P_one]; decide)
   refine pure_wc ?_
   refine wsr ?_
   refine X_op' rfl (A_box rfl rfl (V_t rfl) (K_t rfl) rfl rfl rfl) ?_
   refine X_op' rfl (A_box rfl rfl (V_t rfl) (K_t rfl) rfl rfl rfl) ?_
   refine X_op' rfl (A_alloc rfl rfl) ?_
   refine X_op' rfl (A_alloc rfl rfl) ?_
   refine xa rfl rfl rfl rfl ?_
   refine X_endS ?_
   try dsimp only [St.put, szA, List.length, Nat.reduceAdd]
   refine wsr ?_
   refine X_op' rfl (A_faM rfl rfl rfl rfl rfl) ?_
   refine X_op' rfl (A_ld rfl rfl rfl (ld_fd1 rfl rfl rfl rfl rfl rfl rfl)) ?_
   refine X_op' rfl (A_faM rfl rfl rfl rfl rfl) ?_
   refine X_op' rfl (A_ld rfl rfl rfl (ld_fd1 rfl rfl rfl rfl rfl rfl rfl)) ?_
   refine X_op' rfl (A_callV rfl rfl rfl rfl (.cons (V_t rfl) (K_t rfl) (.cons (V_t rfl) (K_t rfl) .nil)) (c91' h (by omega) h' (by omega) h0)) ?_
   refine X_op' rfl (A_mvU (.inl rfl) rfl) ?_
   refine X_op' rfl (A_ext rfl rfl rfl) ?_
   refine X_op' rfl (A_ext rfl rfl rfl) ?_
   refine X_op' rfl (A_ext rfl rfl rfl) ?_
   refine xa rfl rfl rfl rfl ?_
   refine xa rfl rfl rfl rfl ?_
   refine xa rfl rfl rfl rfl ?_
   refine X_endS ?_
   try dsimp only [St.put, szA, List.length, Nat.reduceAdd]
   refine W_seq ?_
   refine wsr ?_
   refine xm rfl rfl rfl rfl ?_
   refine X_op' rfl (A_not rfl rfl) ?_
   refine X_endS ?_
   try dsimp only [St.put, szA, List.length, Nat.reduceAdd]
   refine W_condF rfl rfl ?_
   refine W_skip ?_
   refine Q_seq ?_
   refine wsr ?_
   refine X_op' rfl (A_faM rfl rfl rfl rfl rfl) ?_
   refine X_op' rfl (A_ld rfl rfl rfl (ld_fd1 rfl rfl rfl rfl rfl rfl rfl)) ?_
   refine X_op' rfl (A_faM rfl rfl rfl rfl rfl) ?_
   refine X_op' rfl (A_ld rfl rfl rfl (ld_fd1 rfl rfl rfl rfl rfl rfl rfl)) ?_
   refine X_op' rfl (A_bne rfl rfl rfl rfl rfl) ?_
   refine xm rfl rfl rfl rfl ?_
   refine X_op' rfl (A_callV rfl rfl rfl rfl (.cons (V_t rfl) (K_t rfl) (.cons (V_t rfl) (K_t rfl) .nil)) ((c73 (U32_en _) (by omega)).trans (show some (Ret.ts [te (ivI (b != d) (en (nv l / nv k)))]) = some (Ret.ts [te Q0]) by rw [hQ0]))) ?_
   refine X_op' rfl (A_faM rfl rfl rfl rfl rfl) ?_
   refine X_op' rfl (A_ld rfl rfl rfl (ld_fd1 rfl rfl rfl rfl rfl rfl rfl)) ?_
   refine xm rfl rfl rfl rfl ?_
   refine X_op' rfl (A_callV rfl rfl rfl rfl (.cons (V_t rfl) (K_t rfl) (.cons (V_t rfl) (K_t rfl) .nil)) ((c73 (U32_en _) (by omega)).trans (show some (Ret.ts [te (ivI b (en (nv l % nv k)))]) = some (Ret.ts [te R0]) by rw [hR0]))) ?_
   refine X_op' rfl (A_stV rfl rfl rfl (V_t rfl) (K_t rfl) rfl rfl rfl rfl rfl rfl rfl) ?_
   refine X_op' rfl (A_stV rfl rfl rfl (V_t rfl) (K_t rfl) rfl rfl rfl rfl rfl rfl rfl) ?_
   refine X_endDS (by kernel_rfl) (by kernel_rfl) ?_
   try dsimp only [St.put, szA, List.length, Nat.reduceAdd]
   refine W_seq ?_
   refine wsr ?_
   refine X_op' rfl (A_faM rfl rfl rfl rfl rfl) ?_
   refine X_op' rfl (A_ld rfl rfl rfl (ld_fd1 rfl rfl rfl rfl rfl rfl rfl)) ?_
   refine X_endS ?_
   try dsimp only [St.put, szA, List.length, Nat.reduceAdd]
   refine W_condB rfl (fun hb5 => ?_) (fun hb5 => ?_)
   ·have khb5 := hb5; (try simp only [kb] at khb5)
    refine wsr ?_
    refine X_op' rfl (A_ld rfl rfl rfl (ld_mp rfl rfl rfl rfl rfl rfl)) ?_
    refine X_op' rfl (A_ld rfl rfl rfl (ld_mp rfl rfl rfl rfl rfl rfl)) ?_
    refine X_op' rfl (A_callV rfl rfl rfl rfl (.cons (V_t rfl) (K_t rfl) .nil) (c92 h' (by omega))) ?_
    refine X_op' rfl (A_callV rfl rfl rfl rfl (.cons (V_t rfl) (K_t rfl) (.cons (V_t rfl) (K_t rfl) .nil)) ((c40 (U32_en _) (by omega) (U32_en _) (by omega)).trans (show some (Ret.ts [te (ivI (decide (R0 < 0)) (en (if R0 < 0 then -R0 else R0)) + ivI (decide (nv k < 0)) (en (if nv k < 0 then -nv k else nv k)))]) = some (Ret.ts [te (R0 + nv k)]) by rw [iv_te, iv_te]))) ?_
    refine X_op' rfl (A_stV rfl rfl rfl (V_t rfl) (K_t rfl) rfl rfl rfl rfl rfl rfl rfl) ?_
    refine X_endDS (by kernel_rfl) (by kernel_rfl) ?_
    try dsimp only [St.put, szA, List.length, Nat.reduceAdd]
    refine wsr ?_
    refine X_op' rfl (A_faM rfl rfl rfl rfl rfl) ?_
    refine X_op' rfl (A_ld rfl rfl rfl (ld_fd1 rfl rfl rfl rfl rfl rfl rfl)) ?_
    refine X_endS ?_
    try dsimp only [St.put, szA, List.length, Nat.reduceAdd]
    refine W_condB rfl (fun hb6 => ?_) (fun hb6 => ?_)
    ·have khb6 := hb6; (try simp only [kb] at khb6)
     refine W_reg ?_
     refine X_op' rfl (A_ld rfl rfl rfl (ld_mp rfl rfl rfl rfl rfl rfl)) ?_
     refine X_op' rfl (A_callV rfl rfl rfl rfl (.cons (V_t rfl) (K_t rfl) .nil) (c43 (by omega) (by omega))) ?_
     refine X_op' rfl (A_callV rfl rfl rfl rfl (.cons (V_t rfl) (K_t rfl) (.cons (V_t rfl) (K_t rfl) .nil)) ((c40 (U32_en _) (by omega) (U32_en _) (by omega)).trans (show some (Ret.ts [te (ivI (decide (Q0 < 0)) (en (if Q0 < 0 then -Q0 else Q0)) + ivI (decide ((1 : Int) < 0)) (en (if (1 : Int) < 0 then -(1 : Int) else (1 : Int))))]) = some (Ret.ts [te (Q0 + 1)]) by rw [iv_te, iv_te]))) ?_
     refine X_op' rfl (A_stV rfl rfl rfl (V_t rfl) (K_t rfl) rfl rfl rfl rfl rfl rfl rfl) ?_
     refine X_endDS (by kernel_rfl) (by kernel_rfl) ?_
     try dsimp only [St.put, szA, List.length, Nat.reduceAdd]
     refine wsr ?_
     refine X_op' rfl (A_ld rfl rfl rfl (ld_mp rfl rfl rfl rfl rfl rfl)) ?_
     refine X_op' rfl (A_ld rfl rfl rfl (ld_mp rfl rfl rfl rfl rfl rfl)) ?_
     refine X_op' rfl (A_stV rfl rfl rfl (V_t rfl) (K_t rfl) rfl rfl rfl rfl rfl rfl rfl) ?_
     refine X_op' rfl (A_stV rfl rfl rfl (V_t rfl) (K_t rfl) rfl rfl rfl rfl rfl rfl rfl) ?_
     refine xa rfl rfl rfl rfl ?_
     refine X_endDS (by kernel_rfl) (by kernel_rfl) ?_
     try dsimp only [St.put, szA, List.length, Nat.reduceAdd]
     refine W_ret ?_
     obtain ⟨f1, f2⟩ := D1 ⟨(sR.1 khb5).1, by have := (sR.1 khb5).2; omega⟩
     have hr : (Ret.ts [te (ivI b l / ivI d k), te (ivI b l % ivI d k), .v (.bool true)]) = .ts [te (Q0 + 1), te (R0 + nv k), .v (.bool true)] := by
       rw [f1, f2, (dm1 eQ (sR.1 khb5).1).1 khb6, show nv k - nv l % nv k = R0 + nv k by rw [eR, if_pos (sR.1 khb5).1]; omega]
     rw [hr]
     exact end_R rfl (.c rfl (ld_mp rfl rfl rfl rfl rfl rfl) (.c rfl (ld_mp rfl rfl rfl rfl rfl rfl) (.t rfl .nil)))
    ·have khb6 := hb6; (try simp only [kb] at khb6)
     refine W_reg ?_
     refine X_op' rfl (A_ld rfl rfl rfl (ld_mp rfl rfl rfl rfl rfl rfl)) ?_
     refine X_op' rfl (A_callV rfl rfl rfl rfl (.cons (V_t rfl) (K_t rfl) .nil) (c43 (by omega) (by omega))) ?_
     refine X_op' rfl (A_callV rfl rfl rfl rfl (.cons (V_t rfl) (K_t rfl) (.cons (V_t rfl) (K_t rfl) .nil)) ((c93 (U32_en _) (by omega) (U32_en _) (by omega)).trans (show some (Ret.ts [te (ivI (decide (Q0 < 0)) (en (if Q0 < 0 then -Q0 else Q0)) - ivI (decide ((1 : Int) < 0)) (en (if (1 : Int) < 0 then -(1 : Int) else (1 : Int))))]) = some (Ret.ts [te (Q0 - 1)]) by rw [iv_te, iv_te]))) ?_
     refine X_op' rfl (A_stV rfl rfl rfl (V_t rfl) (K_t rfl) rfl rfl rfl rfl rfl rfl rfl) ?_
     refine X_endDS (by kernel_rfl) (by kernel_rfl) ?_
     try dsimp only [St.put, szA, List.length, Nat.reduceAdd]
     refine wsr ?_
     refine X_op' rfl (A_ld rfl rfl rfl (ld_mp rfl rfl rfl rfl rfl rfl)) ?_
     refine X_op' rfl (A_ld rfl rfl rfl (ld_mp rfl rfl rfl rfl rfl rfl)) ?_
     refine X_op' rfl (A_stV rfl rfl rfl (V_t rfl) (K_t rfl) rfl rfl rfl rfl rfl rfl rfl) ?_
     refine X_op' rfl (A_stV rfl rfl rfl (V_t rfl) (K_t rfl) rfl rfl rfl rfl rfl rfl rfl) ?_
     refine xa rfl rfl rfl rfl ?_
     refine X_endDS (by kernel_rfl) (by kernel_rfl) ?_
     try dsimp only [St.put, szA, List.length, Nat.reduceAdd]
     refine W_ret ?_
     obtain ⟨f1, f2⟩ := D1 ⟨(sR.1 khb5).1, by have := (sR.1 khb5).2; omega⟩
     have hr : (Ret.ts [te (ivI b l / ivI d k), te (ivI b l % ivI d k), .v (.bool true)]) = .ts [te (Q0 - 1), te (R0 + nv k), .v (.bool true)] := by
       rw [f1, f2, (dm1 eQ (sR.1 khb5).1).2 khb6, show nv k - nv l % nv k = R0 + nv k by rw [eR, if_pos (sR.1 khb5).1]; omega]
     rw [hr]
     exact end_R rfl (.c rfl (ld_mp rfl rfl rfl rfl rfl rfl) (.c rfl (ld_mp rfl rfl rfl rfl rfl rfl) (.t rfl .nil)))
   ·have khb5 := hb5; (try simp only [kb] at khb5)
    refine W_skip ?_
    refine Q_seq ?_
    refine wsr ?_
    refine X_op' rfl (A_ld rfl rfl rfl (ld_mp rfl rfl rfl rfl rfl rfl)) ?_
    refine X_op' rfl (A_ld rfl rfl rfl (ld_mp rfl rfl rfl rfl rfl rfl)) ?_
    refine X_op' rfl (A_stV rfl rfl rfl (V_t rfl) (K_t rfl) rfl rfl rfl rfl rfl rfl rfl) ?_
    refine X_op' rfl (A_stV rfl rfl rfl (V_t rfl) (K_t rfl) rfl rfl rfl rfl rfl rfl rfl) ?_
    refine xa rfl rfl rfl rfl ?_
    refine X_endDS (by kernel_rfl) (by kernel_rfl) ?_
    try dsimp only [St.put, szA, List.length, Nat.reduceAdd]
    refine W_ret ?_
    obtain ⟨f1, f2⟩ := D2 (fun e => by have := sR.2 ⟨e.1, by omega⟩; omega)
    have hr : (Ret.ts [te (ivI b l / ivI d k), te (ivI b l % ivI d k), .v (.bool true)]) = .ts [te (Q0), te (R0), .v (.bool true)] := by
      rw [f1, f2, ← eQ, show nv l % nv k = R0 from dm3 eR m0 khb5]
    rw [hr]
    exact end_R rfl (.c rfl (ld_mp rfl rfl rfl rfl rfl rfl) (.c rfl (ld_mp rfl rfl rfl rfl rfl rfl) (.t rfl .nil)))
  exact (if_pos rfl).trans (run _ (by simp only [fu57]; omega) _ rfl)
end Go.Ev.S
/- The reference of the rational numbers: walks. -/
set_option linter.unusedVariables false
set_option linter.unusedSimpArgs false
set_option maxRecDepth 100000
namespace Go.Ev.S
open Go Go.Ev Go.Proofs NumA
/-- What Make hands back: 0 over 0 is 0. -/
theorem tc_zero : tc 0 = tq false [] [1] := by
  unfold tc
  simp [en_zero, en1]
theorem tc_int (x : Int) : tc (x : Rat) = tq (decide (x < 0)) (en (x.natAbs : Int)) (en 1) := by
  unfold tc
  rw [Rat.num_intCast, Rat.den_intCast]
  rfl
theorem te_can (q : Rat) : te q.num = tz (decide (q.num < 0)) (en (q.num.natAbs : Int)) := te_eq _
theorem divInt_abs (x y : Int) : (if y < 0 then Rat.divInt (-x) (y.natAbs : Int) else Rat.divInt x (y.natAbs : Int)) = Rat.divInt x y := by
  split
  · rw [← Rat.neg_divInt_neg x y]; congr 1; omega
  · congr 1; omega
theorem lim1 : lim 1 = T.v (.int .u32 1) := rfl
theorem te_mag (x : Int) : (if x < 0 then -x else x) = (x.natAbs : Int) := by split <;> omega
/-- x / g over d / g, in lowest terms, with the sign above. -/
theorem low_div {x y g : Int} (hy : y ≠ 0) (hg : g = igcd (x.natAbs : Int) (y.natAbs : Int)) :
    (0 ≤ y → tc (Rat.divInt x y) = tq (decide (x / g < 0)) (en (if x / g < 0 then -(x / g) else x / g)) (en (if y / g < 0 then -(y / g) else y / g))) ∧
    (y < 0 → tc (Rat.divInt x y) = tq (decide (-(x / g) < 0)) (en (if -(x / g) < 0 then -(-(x / g)) else -(x / g))) (en (if -(y / g) < 0 then -(-(y / g)) else -(y / g)))) ∧ (y / g < 0 ↔ y < 0) := by
  have hya : (0 : Int) < (y.natAbs : Int) := by omega
  have hgp : 0 < g := by rw [hg]; exact igcd_pos hya
  have gx : g ∣ x := by
    rw [hg]; unfold igcd
    rw [← Int.dvd_natAbs]
    exact Int.ofNat_dvd.2 (by have := Nat.gcd_dvd_left (x.natAbs : Int).toNat (y.natAbs : Int).toNat; simpa using this)
  have gy : g ∣ y := by
    rw [hg]; unfold igcd
    rw [← Int.dvd_natAbs]
    exact Int.ofNat_dvd.2 (by have := Nat.gcd_dvd_right (x.natAbs : Int).toNat (y.natAbs : Int).toNat; simpa using this)
  obtain ⟨u, hu⟩ := gx
  obtain ⟨v, hv⟩ := gy
  have e1 : x / g = u := by rw [hu, Int.mul_ediv_cancel_left _ (by omega)]
  have e2 : y / g = v := by rw [hv, Int.mul_ediv_cancel_left _ (by omega)]
  have a1 : (x.natAbs : Int) / g = (u.natAbs : Int) := by
    rw [hu, Int.natAbs_mul, Int.natCast_mul, show ((g.natAbs : Nat) : Int) = g by omega, Int.mul_ediv_cancel_left _ (by omega)]
  have a2 : (y.natAbs : Int) / g = (v.natAbs : Int) := by
    rw [hv, Int.natAbs_mul, Int.natCast_mul, show ((g.natAbs : Nat) : Int) = g by omega, Int.mul_ediv_cancel_left _ (by omega)]
  have s1 : x < 0 ↔ u < 0 := by rw [hu]; constructor
                                · intro h; exact Int.not_le.1 fun h2 => absurd (Int.mul_nonneg (show 0 ≤ g by omega) h2) (by omega)
                                · intro h; exact Int.mul_neg_of_pos_of_neg hgp h
  have s2 : y < 0 ↔ v < 0 := by rw [hv]; constructor
                                · intro h; exact Int.not_le.1 fun h2 => absurd (Int.mul_nonneg (show 0 ≤ g by omega) h2) (by omega)
                                · intro h; exact Int.mul_neg_of_pos_of_neg hgp h
  refine ⟨fun h => ?_, fun h => ?_, by rw [e2]; exact s2.symm⟩
  · obtain ⟨L1, L2, L3⟩ := low_terms (x := x) (d := y) (by omega)
    rw [show igcd (x.natAbs : Int) y = g by rw [hg]; congr 1; omega] at L2 L3
    rw [a1] at L2
    unfold tc
    rw [L1, L2, L3, e1, e2, te_mag, te_mag, show (v.natAbs : Int) = v by omega]
    simp only [s1]
  · obtain ⟨L1, L2, L3⟩ := low_terms (x := -x) (d := -y) (by omega)
    rw [show igcd ((-x).natAbs : Int) (-y) = g by rw [hg]; congr 1 <;> omega] at L2 L3
    rw [Rat.neg_divInt_neg] at L1 L2 L3
    rw [show ((-x).natAbs : Int) = (x.natAbs : Int) by omega, a1] at L2
    rw [show -y = (y.natAbs : Int) by omega, a2] at L3
    unfold tc
    rw [L1, L2, L3, e1, e2, te_mag, te_mag, show ((-u).natAbs : Int) = (u.natAbs : Int) by omega, show ((-v).natAbs : Int) = (v.natAbs : Int) by omega]
    by_cases hx : x = 0
    · have hu0 : u = 0 := by
        rw [hx] at hu
        rcases Int.mul_eq_zero.1 hu.symm with h1 | h1
        · omega
        · exact h1
      rw [hx, hu0]
    · have hu9 : u ≠ 0 := fun e => hx (by rw [hu, e, Int.mul_zero])
      rw [show decide (-x < 0) = decide (-u < 0) from by rw [decide_eq_decide]; omega]
def keep15 : Nat → List Nat := fun _ => []
noncomputable def sp15 : Nat → Option Spec := noneS
theorem hs15 : ∀ f s, sp15 f = some s → SpecOk Tryz.prog f s := none_ok
noncomputable def fu15 : List T → Nat := fun _ => 4398046511104
noncomputable def g15 : List T → Option Ret := fun ts => if ts.length = 0 then pureRun ty sp15 keep15 (fu15 ts) false Tryz.f15.results (Tryz.f15.body.getD .skip) ts else none
theorem s15 : SpecOk Tryz.prog 15 (viewSpec g15) := pure_ok mixed ty_ok hs15 Tryz.func15 rfl (by kernel_rfl) (enters_of Tryz.func15 (by kernel_rfl) rfl) keep15 fu15 false 0 (by decide)
set_option maxHeartbeats 4000000 in
theorem c15  : g15 [] = some (.ts [tc 0]) := by
  have run : ∀ (fuel : Nat) (hf : 1099511627776 < fuel) (c : Code) (hc : Tryz.f15.body = some c), pureRun ty sp15 keep15 fuel false Tryz.f15.results c [] = some (.ts [tc 0]) := by
   intro fuel hf c hc
   injection hc with hc
   subst hc
   rw [tc_zero]
   refine pure_wc ?_
   refine wsr ?_
   refine X_op' rfl (A_alloc rfl rfl) ?_
   refine X_endS ?_
   try dsimp only [St.put, szA, List.length, Nat.reduceAdd]
   refine wsr ?_
   refine X_op' rfl (A_bs rfl rfl rfl rfl rfl .nil rfl rfl (by decide)) ?_
   refine X_op' rfl (A_build rfl rfl rfl (.cons (V_m rfl rfl rfl rfl) (K_m rfl) .nil) rfl rfl rfl) ?_
   refine X_op' rfl (A_bs rfl rfl rfl rfl rfl (.cons (V_t rfl) (K_t rfl) .nil) rfl rfl (by decide)) ?_
   refine X_op' rfl (A_build rfl rfl rfl (.cons (V_t rfl) (K_t rfl) (.cons (V_m rfl rfl rfl rfl) (K_m rfl) .nil)) rfl rfl rfl) ?_
   refine X_op' rfl (A_stV rfl rfl rfl (V_t rfl) (K_t rfl) rfl rfl rfl rfl rfl rfl rfl) ?_
   refine X_endS ?_
   try dsimp only [St.put, szA, List.length, Nat.reduceAdd]
   refine W_ret ?_
   exact end_R rfl (.c rfl (ld_mp rfl rfl rfl rfl rfl rfl) .nil)
  exact (if_pos rfl).trans (run _ (by simp only [fu15]; omega) _ rfl)
def keep39 : Nat → List Nat := fun _ => []
noncomputable def sp39 : Nat → Option Spec := (more 58 (viewSpec g58) (more 15 (viewSpec g15) (more 55 (viewSpec g55) (more 71 (viewSpec g71) (more 72 (viewSpec g72) (more 57 (viewSpec g57) (more 54 (viewSpec g54) noneS)))))))
theorem hs39 : ∀ f s, sp39 f = some s → SpecOk Tryz.prog f s := (more_ok s58 (more_ok s15 (more_ok s55 (more_ok s71 (more_ok s72 (more_ok s57 (more_ok s54 none_ok)))))))
noncomputable def fu39 : List T → Nat := fun _ => 4398046511104
noncomputable def g39 : List T → Option Ret := fun ts => if ts.length = 2 then pureRun ty sp39 keep39 (fu39 ts) false Tryz.f39.results (Tryz.f39.body.getD .skip) ts else none
theorem s39 : SpecOk Tryz.prog 39 (viewSpec g39) := pure_ok mixed ty_ok hs39 Tryz.func39 rfl (by kernel_rfl) (enters_of Tryz.func39 (by kernel_rfl) rfl) keep39 fu39 false 2 (by decide)
set_option maxHeartbeats 8000000 in
theorem c39 {b d : Bool} {l k : List Int} (h : U32 l) (hl : l.length ≤ 17179869183) (h' : U32 k) (hk : k.length ≤ 17179869183) : g39 [tz b l, tz d k] = some (.ts [tc (Rat.divInt (ivI b l) (ivI d k))]) := by
  have run : ∀ (fuel : Nat) (hf : 1099511627776 < fuel) (c : Code) (hc : Tryz.f39.body = some c), pureRun ty sp39 keep39 fuel false Tryz.f39.results c [tz b l, tz d k] = some (.ts [tc (Rat.divInt (ivI b l) (ivI d k))]) := by
   intro fuel hf c hc
   injection hc with hc
   subst hc
   obtain ⟨x, hx⟩ : ∃ x : Int, x = ivI b l := ⟨_, rfl⟩
   obtain ⟨y, hy⟩ : ∃ y : Int, y = ivI d k := ⟨_, rfl⟩
   rw [← hx, ← hy]
   have nx : nv l = (x.natAbs : Int) := by rw [hx, ivI_iv, iv_natAbs h]
   have ny : nv k = (y.natAbs : Int) := by rw [hy, ivI_iv, iv_natAbs h']
   obtain ⟨g, hg⟩ : ∃ g : Int, g = igcd (x.natAbs : Int) (y.natAbs : Int) := ⟨_, rfl⟩
   have hg9 : igcd (nv l) (nv k) = g := by rw [hg, nx, ny]
   have px := iv_lt_P (b := b) h (Nat.le_max_left l.length k.length)
   have py := iv_lt_P (b := d) h' (Nat.le_max_right l.length k.length)
   rw [← hx] at px
   rw [← hy] at py
   have hg0 : 0 ≤ g := by rw [hg]; exact igcd_nonneg _ _
   have hgl : g ≤ max (x.natAbs : Int) (y.natAbs : Int) := by rw [hg]; exact igcd_le_max (by omega) (by omega)
   have lg : (en (if g < 0 then -g else g)).length ≤ max l.length k.length := te_len (by omega)
   have ly : (en (if y < 0 then -y else y)).length ≤ max l.length k.length := te_len (by omega)
   have bx := Int.natAbs_ediv_le_natAbs x g
   have by' := Int.natAbs_ediv_le_natAbs y g
   have lxg : (en (if (x / g) < 0 then -(x / g) else (x / g))).length ≤ max l.length k.length := te_len (by omega)
   have lyg : (en (if (y / g) < 0 then -(y / g) else (y / g))).length ≤ max l.length k.length := te_len (by omega)
   refine pure_wc ?_
   refine wsr ?_
   refine X_op' rfl (A_box rfl rfl (V_t rfl) (K_t rfl) rfl rfl rfl) ?_
   refine X_op' rfl (A_box rfl rfl (V_t rfl) (K_t rfl) rfl rfl rfl) ?_
   refine X_op' rfl (A_alloc rfl rfl) ?_
   refine X_endS ?_
   try dsimp only [St.put, szA, List.length, Nat.reduceAdd]
   refine W_seq ?_
   refine wsr ?_
   refine X_op' rfl (A_ld rfl rfl rfl (ld_mp rfl rfl rfl rfl rfl rfl)) ?_
   refine X_op' rfl (A_callV rfl rfl rfl rfl (.cons (V_t rfl) (K_t rfl) .nil) ((c58 h' (by omega)).trans (show some (Ret.ts [.v (.int .i64 (sgI (ivI d k)))]) = some (Ret.ts [.v (.int .i64 (sgI y))]) by rw [hy]))) ?_
   refine X_op' rfl (A_int rfl rfl rfl ⟨by decide, by decide⟩ rfl) ?_
   refine X_endS ?_
   try dsimp only [St.put, szA, List.length, Nat.reduceAdd]
   refine W_condB rfl (fun hb1 => ?_) (fun hb1 => ?_)
   ·have khb1 := hb1; (try simp only [kb] at khb1)
    refine wsr ?_
    refine X_op' rfl (A_callV rfl rfl rfl rfl .nil c15) ?_
    refine X_op' rfl (A_stV rfl rfl rfl (V_t rfl) (K_t rfl) rfl rfl rfl rfl rfl rfl rfl) ?_
    refine X_endS ?_
    try dsimp only [St.put, szA, List.length, Nat.reduceAdd]
    refine W_ret ?_
    refine Q_seqX ?_
    have hy0 : y = 0 := sgI_zero.1 khb1
    rw [hy0, Rat.divInt_zero]
    exact end_R rfl (.c rfl (ld_mp rfl rfl rfl rfl rfl rfl) .nil)
   ·have khb1 := hb1; (try simp only [kb] at khb1)
    refine W_skip ?_
    refine Q_seq ?_
    refine W_seq ?_
    refine wsr ?_
    have hy0 : y ≠ 0 := fun e => khb1 (sgI_zero.2 e)
    have hgp : 0 < g := by rw [hg]; exact igcd_pos (by omega)
    refine X_op' rfl (A_ld rfl rfl rfl (ld_mp rfl rfl rfl rfl rfl rfl)) ?_
    refine X_op' rfl (A_callV rfl rfl rfl rfl (.cons (V_t rfl) (K_t rfl) .nil) ((c55 h' (by omega)).trans (show some (Ret.ts [te (ivI d k)]) = some (Ret.ts [te y]) by rw [hy]))) ?_
    refine X_op' rfl (A_alloc rfl rfl) ?_
    refine X_op' rfl (A_stV rfl rfl rfl (V_t rfl) (K_t rfl) rfl rfl rfl rfl rfl rfl rfl) ?_
    refine X_endS ?_
    try dsimp only [St.put, szA, List.length, Nat.reduceAdd]
    refine wsr ?_
    refine X_op' rfl (A_faM rfl rfl rfl rfl rfl) ?_
    refine X_op' rfl (A_ld rfl rfl rfl (ld_fd1 rfl rfl rfl rfl rfl rfl rfl)) ?_
    refine X_op' rfl (A_not rfl rfl) ?_
    refine xm rfl rfl rfl rfl ?_
    refine X_both (d := 22) rfl (fun hb3 => ?_) (fun hb3 => ?_)
    ·have khb3 := hb3; (try simp only [kb] at khb3)
     refine X_yes' rfl rfl rfl hb3 (A_faM rfl rfl rfl rfl rfl) ?_
     refine X_yes' rfl rfl rfl hb3 (A_ld rfl rfl rfl (ld_fd1 rfl rfl rfl rfl rfl rfl rfl)) ?_
     refine X_yes' rfl rfl rfl hb3 (A_bs rfl rfl rfl rfl rfl (.cons (V_t rfl) (K_t rfl) .nil) rfl rfl (by decide)) ?_
     refine X_yes' rfl rfl rfl hb3 (A_callV rfl rfl rfl rfl (.cons (V_t rfl) (K_t rfl) (.cons (V_m rfl rfl rfl rfl) (K_m rfl) .nil)) (c71 (k := [1]) (by omega) (by simp))) ?_
     refine X_op' rfl (A_pickT rfl rfl hb3 rfl) ?_
     refine X_endS ?_
     try dsimp only [St.put, szA, List.length, Nat.reduceAdd]
     refine W_condB rfl (fun hb4 => ?_) (fun hb4 => ?_)
     ·have khb4 := hb4; (try simp only [kb] at khb4)
      refine wsr ?_
      refine X_op' rfl (A_ld rfl rfl rfl (ld_mp rfl rfl rfl rfl rfl rfl)) ?_
      refine X_op' rfl (A_callV rfl rfl rfl rfl (.cons (V_t rfl) (K_t rfl) .nil) ((c55 h (by omega)).trans (show some (Ret.ts [te (ivI b l)]) = some (Ret.ts [te x]) by rw [hx]))) ?_
      refine X_op' rfl (A_faM rfl rfl rfl rfl rfl) ?_
      refine X_op' rfl (A_ld rfl rfl rfl (ld_fd1 rfl rfl rfl rfl rfl rfl rfl)) ?_
      refine X_op' rfl (A_build rfl rfl rfl (.cons (V_t rfl) (K_t rfl) (.cons (V_t rfl) (K_t rfl) .nil)) rfl rfl rfl) ?_
      refine X_op' rfl (A_stV rfl rfl rfl (V_t rfl) (K_t rfl) rfl rfl rfl rfl rfl rfl rfl) ?_
      refine X_endDS (by kernel_rfl) (by kernel_rfl) ?_
      try dsimp only [St.put, szA, List.length, Nat.reduceAdd]
      refine W_ret ?_
      refine Q_seqX ?_
      have hy1 : (y.natAbs : Int) = 1 := by
        have h9 := nv_teL y
        rw [khb4] at h9
        rw [← h9]; rfl
      have hy2 : y = 1 := by omega
      have hr : tc (Rat.divInt x y) = tq (decide (x < 0)) (en (if x < 0 then -x else x)) (en (if y < 0 then -y else y)) := by
        rw [hy2, rv_int, tc_int, te_mag]
        rfl
      rw [hr]
      exact end_R rfl (.c rfl (ld_mp rfl rfl rfl rfl rfl rfl) .nil)
     ·have khb4 := hb4; (try simp only [kb] at khb4)
      refine W_skip ?_
      refine Q_seq ?_
      refine wsr ?_
      refine X_op' rfl (A_ld rfl rfl rfl (ld_mp rfl rfl rfl rfl rfl rfl)) ?_
      refine X_op' rfl (A_ld rfl rfl rfl (ld_mp rfl rfl rfl rfl rfl rfl)) ?_
      refine X_op' rfl (A_callV rfl rfl rfl rfl (.cons (V_t rfl) (K_t rfl) (.cons (V_t rfl) (K_t rfl) .nil)) ((c72 h (by omega) h' (by omega)).trans (show some (Ret.ts [te (igcd (nv l) (nv k))]) = some (Ret.ts [te g]) by rw [hg9]))) ?_
      refine X_op' rfl (A_alloc rfl rfl) ?_
      refine X_op' rfl (A_stV rfl rfl rfl (V_t rfl) (K_t rfl) rfl rfl rfl rfl rfl rfl rfl) ?_
      refine X_endS ?_
      try dsimp only [St.put, szA, List.length, Nat.reduceAdd]
      refine wsr ?_
      refine X_op' rfl (A_ld rfl rfl rfl (ld_mp rfl rfl rfl rfl rfl rfl)) ?_
      refine X_op' rfl (A_ld rfl rfl rfl (ld_mp rfl rfl rfl rfl rfl rfl)) ?_
      refine X_op' rfl (A_callV rfl rfl rfl rfl (.cons (V_t rfl) (K_t rfl) (.cons (V_t rfl) (K_t rfl) .nil)) ((c57 h (by omega) (U32_en _) (by omega) (by rw [nv_teL]; omega)).trans (show some (Ret.ts [te (ivI b l / ivI (decide (g < 0)) (en (if g < 0 then -g else g))), te (ivI b l % ivI (decide (g < 0)) (en (if g < 0 then -g else g))), .v (.bool true)]) = some (Ret.ts [te (x / g), te (x % g), .v (.bool true)]) by rw [iv_te, hx]))) ?_
      refine X_op' rfl (A_mvU (.inl rfl) rfl) ?_
      refine X_op' rfl (A_ext rfl rfl rfl) ?_
      refine X_op' rfl (A_ext rfl rfl rfl) ?_
      refine X_op' rfl (A_ext rfl rfl rfl) ?_
      refine X_op' rfl (A_alloc rfl rfl) ?_
      refine X_op' rfl (A_alloc rfl rfl) ?_
      refine X_op' rfl (A_stV rfl rfl rfl (V_t rfl) (K_t rfl) rfl rfl rfl rfl rfl rfl rfl) ?_
      refine X_op' rfl (A_stV rfl rfl rfl (V_t rfl) (K_t rfl) rfl rfl rfl rfl rfl rfl rfl) ?_
      refine xa rfl rfl rfl rfl ?_
      refine X_endS ?_
      try dsimp only [St.put, szA, List.length, Nat.reduceAdd]
      refine wsr ?_
      refine X_op' rfl (A_ld rfl rfl rfl (ld_mp rfl rfl rfl rfl rfl rfl)) ?_
      refine X_op' rfl (A_ld rfl rfl rfl (ld_mp rfl rfl rfl rfl rfl rfl)) ?_
      refine X_op' rfl (A_callV rfl rfl rfl rfl (.cons (V_t rfl) (K_t rfl) (.cons (V_t rfl) (K_t rfl) .nil)) ((c57 h' (by omega) (U32_en _) (by omega) (by rw [nv_teL]; omega)).trans (show some (Ret.ts [te (ivI d k / ivI (decide (g < 0)) (en (if g < 0 then -g else g))), te (ivI d k % ivI (decide (g < 0)) (en (if g < 0 then -g else g))), .v (.bool true)]) = some (Ret.ts [te (y / g), te (y % g), .v (.bool true)]) by rw [iv_te, hy]))) ?_
      refine X_op' rfl (A_mvU (.inl rfl) rfl) ?_
      refine X_op' rfl (A_ext rfl rfl rfl) ?_
      refine X_op' rfl (A_ext rfl rfl rfl) ?_
      refine X_op' rfl (A_ext rfl rfl rfl) ?_
      refine X_op' rfl (A_alloc rfl rfl) ?_
      refine X_op' rfl (A_alloc rfl rfl) ?_
      refine X_op' rfl (A_stV rfl rfl rfl (V_t rfl) (K_t rfl) rfl rfl rfl rfl rfl rfl rfl) ?_
      refine X_op' rfl (A_stV rfl rfl rfl (V_t rfl) (K_t rfl) rfl rfl rfl rfl rfl rfl rfl) ?_
      refine xa rfl rfl rfl rfl ?_
      refine X_endS ?_
      try dsimp only [St.put, szA, List.length, Nat.reduceAdd]
      refine W_seq ?_
      refine wsr ?_
      refine X_op' rfl (A_faM rfl rfl rfl rfl rfl) ?_
      refine X_op' rfl (A_ld rfl rfl rfl (ld_fd1 rfl rfl rfl rfl rfl rfl rfl)) ?_
      refine X_endS ?_
      try dsimp only [St.put, szA, List.length, Nat.reduceAdd]
      refine W_condB rfl (fun hb5 => ?_) (fun hb5 => ?_)
      ·have khb5 := hb5; (try simp only [kb] at khb5)
       refine W_reg ?_
       refine X_op' rfl (A_ld rfl rfl rfl (ld_mp rfl rfl rfl rfl rfl rfl)) ?_
       refine X_op' rfl (A_callV rfl rfl rfl rfl (.cons (V_t rfl) (K_t rfl) .nil) ((c54 (U32_en _) (by omega)).trans (show some (Ret.ts [te (- ivI (decide ((x / g) < 0)) (en (if (x / g) < 0 then -(x / g) else (x / g))))]) = some (Ret.ts [te (-((x / g)))]) by rw [iv_te]))) ?_
       refine X_op' rfl (A_ld rfl rfl rfl (ld_mp rfl rfl rfl rfl rfl rfl)) ?_
       refine X_op' rfl (A_callV rfl rfl rfl rfl (.cons (V_t rfl) (K_t rfl) .nil) ((c54 (U32_en _) (by omega)).trans (show some (Ret.ts [te (- ivI (decide ((y / g) < 0)) (en (if (y / g) < 0 then -(y / g) else (y / g))))]) = some (Ret.ts [te (-((y / g)))]) by rw [iv_te]))) ?_
       refine X_op' rfl (A_stV rfl rfl rfl (V_t rfl) (K_t rfl) rfl rfl rfl rfl rfl rfl rfl) ?_
       refine X_op' rfl (A_stV rfl rfl rfl (V_t rfl) (K_t rfl) rfl rfl rfl rfl rfl rfl rfl) ?_
       refine X_endDS (by kernel_rfl) (by kernel_rfl) ?_
       try dsimp only [St.put, szA, List.length, Nat.reduceAdd]
       refine wsr ?_
       refine X_op' rfl (A_ld rfl rfl rfl (ld_mp rfl rfl rfl rfl rfl rfl)) ?_
       refine X_op' rfl (A_faM rfl rfl rfl rfl rfl) ?_
       refine X_op' rfl (A_ld rfl rfl rfl (ld_fd1 rfl rfl rfl rfl rfl rfl rfl)) ?_
       refine X_op' rfl (A_build rfl rfl rfl (.cons (V_t rfl) (K_t rfl) (.cons (V_t rfl) (K_t rfl) .nil)) rfl rfl rfl) ?_
       refine X_op' rfl (A_stV rfl rfl rfl (V_t rfl) (K_t rfl) rfl rfl rfl rfl rfl rfl rfl) ?_
       refine X_endS ?_
       try dsimp only [St.put, szA, List.length, Nat.reduceAdd]
       refine W_ret ?_
       rw [(low_div (x := x) (y := y) (g := g) hy0 hg).2.1 (by have := (low_div (x := x) (y := y) (g := g) hy0 hg).2.2; omega)]
       exact end_R rfl (.c rfl (ld_mp rfl rfl rfl rfl rfl rfl) .nil)
      ·have khb5 := hb5; (try simp only [kb] at khb5)
       refine W_skip ?_
       refine Q_seq ?_
       refine wsr ?_
       refine X_op' rfl (A_ld rfl rfl rfl (ld_mp rfl rfl rfl rfl rfl rfl)) ?_
       refine X_op' rfl (A_faM rfl rfl rfl rfl rfl) ?_
       refine X_op' rfl (A_ld rfl rfl rfl (ld_fd1 rfl rfl rfl rfl rfl rfl rfl)) ?_
       refine X_op' rfl (A_build rfl rfl rfl (.cons (V_t rfl) (K_t rfl) (.cons (V_t rfl) (K_t rfl) .nil)) rfl rfl rfl) ?_
       refine X_op' rfl (A_stV rfl rfl rfl (V_t rfl) (K_t rfl) rfl rfl rfl rfl rfl rfl rfl) ?_
       refine X_endS ?_
       try dsimp only [St.put, szA, List.length, Nat.reduceAdd]
       refine W_ret ?_
       rw [(low_div (x := x) (y := y) (g := g) hy0 hg).1 (by have := (low_div (x := x) (y := y) (g := g) hy0 hg).2.2; omega)]
       exact end_R rfl (.c rfl (ld_mp rfl rfl rfl rfl rfl rfl) .nil)
    ·have khb3 := hb3; (try simp only [kb] at khb3)
     refine X_no1 rfl rfl rfl hb3 ?_
     refine X_no1 rfl rfl rfl hb3 ?_
     refine X_no1 rfl rfl rfl hb3 ?_
     refine X_no1 rfl rfl rfl hb3 ?_
     refine X_op' rfl (A_pickF rfl rfl hb3 rfl) ?_
     refine X_endS ?_
     try dsimp only [St.put, szA, List.length, Nat.reduceAdd]
     refine W_condF rfl rfl ?_
     refine W_skip ?_
     refine Q_seq ?_
     refine wsr ?_
     refine X_op' rfl (A_ld rfl rfl rfl (ld_mp rfl rfl rfl rfl rfl rfl)) ?_
     refine X_op' rfl (A_ld rfl rfl rfl (ld_mp rfl rfl rfl rfl rfl rfl)) ?_
     refine X_op' rfl (A_callV rfl rfl rfl rfl (.cons (V_t rfl) (K_t rfl) (.cons (V_t rfl) (K_t rfl) .nil)) ((c72 h (by omega) h' (by omega)).trans (show some (Ret.ts [te (igcd (nv l) (nv k))]) = some (Ret.ts [te g]) by rw [hg9]))) ?_
     refine X_op' rfl (A_alloc rfl rfl) ?_
     refine X_op' rfl (A_stV rfl rfl rfl (V_t rfl) (K_t rfl) rfl rfl rfl rfl rfl rfl rfl) ?_
     refine X_endS ?_
     try dsimp only [St.put, szA, List.length, Nat.reduceAdd]
     refine wsr ?_
     refine X_op' rfl (A_ld rfl rfl rfl (ld_mp rfl rfl rfl rfl rfl rfl)) ?_
     refine X_op' rfl (A_ld rfl rfl rfl (ld_mp rfl rfl rfl rfl rfl rfl)) ?_
     refine X_op' rfl (A_callV rfl rfl rfl rfl (.cons (V_t rfl) (K_t rfl) (.cons (V_t rfl) (K_t rfl) .nil)) ((c57 h (by omega) (U32_en _) (by omega) (by rw [nv_teL]; omega)).trans (show some (Ret.ts [te (ivI b l / ivI (decide (g < 0)) (en (if g < 0 then -g else g))), te (ivI b l % ivI (decide (g < 0)) (en (if g < 0 then -g else g))), .v (.bool true)]) = some (Ret.ts [te (x / g), te (x % g), .v (.bool true)]) by rw [iv_te, hx]))) ?_
     refine X_op' rfl (A_mvU (.inl rfl) rfl) ?_
     refine X_op' rfl (A_ext rfl rfl rfl) ?_
     refine X_op' rfl (A_ext rfl rfl rfl) ?_
     refine X_op' rfl (A_ext rfl rfl rfl) ?_
     refine X_op' rfl (A_alloc rfl rfl) ?_
     refine X_op' rfl (A_alloc rfl rfl) ?_
     refine X_op' rfl (A_stV rfl rfl rfl (V_t rfl) (K_t rfl) rfl rfl rfl rfl rfl rfl rfl) ?_
     refine X_op' rfl (A_stV rfl rfl rfl (V_t rfl) (K_t rfl) rfl rfl rfl rfl rfl rfl rfl) ?_
     refine xa rfl rfl rfl rfl ?_
     refine X_endS ?_
     try dsimp only [St.put, szA, List.length, Nat.reduceAdd]
     refine wsr ?_
     refine X_op' rfl (A_ld rfl rfl rfl (ld_mp rfl rfl rfl rfl rfl rfl)) ?_
     refine X_op' rfl (A_ld rfl rfl rfl (ld_mp rfl rfl rfl rfl rfl rfl)) ?_
     refine X_op' rfl (A_callV rfl rfl rfl rfl (.cons (V_t rfl) (K_t rfl) (.cons (V_t rfl) (K_t rfl) .nil)) ((c57 h' (by omega) (U32_en _) (by omega) (by rw [nv_teL]; omega)).trans (show some (Ret.ts [te (ivI d k / ivI (decide (g < 0)) (en (if g < 0 then -g else g))), te (ivI d k % ivI (decide (g < 0)) (en (if g < 0 then -g else g))), .v (.bool true)]) = some (Ret.ts [te (y / g), te (y % g), .v (.bool true)]) by rw [iv_te, hy]))) ?_
     refine X_op' rfl (A_mvU (.inl rfl) rfl) ?_
     refine X_op' rfl (A_ext rfl rfl rfl) ?_
     refine X_op' rfl (A_ext rfl rfl rfl) ?_
     refine X_op' rfl (A_ext rfl rfl rfl) ?_
     refine X_op' rfl (A_alloc rfl rfl) ?_
     refine X_op' rfl (A_alloc rfl rfl) ?_
     refine X_op' rfl (A_stV rfl rfl rfl (V_t rfl) (K_t rfl) rfl rfl rfl rfl rfl rfl rfl) ?_
     refine X_op' rfl (A_stV rfl rfl rfl (V_t rfl) (K_t rfl) rfl rfl rfl rfl rfl rfl rfl) ?_
     refine xa rfl rfl rfl rfl ?_
     refine X_endS ?_
     try dsimp only [St.put, szA, List.length, Nat.reduceAdd]
     refine W_seq ?_
     refine wsr ?_
     refine X_op' rfl (A_faM rfl rfl rfl rfl rfl) ?_
     refine X_op' rfl (A_ld rfl rfl rfl (ld_fd1 rfl rfl rfl rfl rfl rfl rfl)) ?_
     refine X_endS ?_
     try dsimp only [St.put, szA, List.length, Nat.reduceAdd]
     refine W_condB rfl (fun hb6 => ?_) (fun hb6 => ?_)
     ·have khb6 := hb6; (try simp only [kb] at khb6)
      refine W_reg ?_
      refine X_op' rfl (A_ld rfl rfl rfl (ld_mp rfl rfl rfl rfl rfl rfl)) ?_
      refine X_op' rfl (A_callV rfl rfl rfl rfl (.cons (V_t rfl) (K_t rfl) .nil) ((c54 (U32_en _) (by omega)).trans (show some (Ret.ts [te (- ivI (decide ((x / g) < 0)) (en (if (x / g) < 0 then -(x / g) else (x / g))))]) = some (Ret.ts [te (-((x / g)))]) by rw [iv_te]))) ?_
      refine X_op' rfl (A_ld rfl rfl rfl (ld_mp rfl rfl rfl rfl rfl rfl)) ?_
      refine X_op' rfl (A_callV rfl rfl rfl rfl (.cons (V_t rfl) (K_t rfl) .nil) ((c54 (U32_en _) (by omega)).trans (show some (Ret.ts [te (- ivI (decide ((y / g) < 0)) (en (if (y / g) < 0 then -(y / g) else (y / g))))]) = some (Ret.ts [te (-((y / g)))]) by rw [iv_te]))) ?_
      refine X_op' rfl (A_stV rfl rfl rfl (V_t rfl) (K_t rfl) rfl rfl rfl rfl rfl rfl rfl) ?_
      refine X_op' rfl (A_stV rfl rfl rfl (V_t rfl) (K_t rfl) rfl rfl rfl rfl rfl rfl rfl) ?_
      refine X_endDS (by kernel_rfl) (by kernel_rfl) ?_
      try dsimp only [St.put, szA, List.length, Nat.reduceAdd]
      refine wsr ?_
      refine X_op' rfl (A_ld rfl rfl rfl (ld_mp rfl rfl rfl rfl rfl rfl)) ?_
      refine X_op' rfl (A_faM rfl rfl rfl rfl rfl) ?_
      refine X_op' rfl (A_ld rfl rfl rfl (ld_fd1 rfl rfl rfl rfl rfl rfl rfl)) ?_
      refine X_op' rfl (A_build rfl rfl rfl (.cons (V_t rfl) (K_t rfl) (.cons (V_t rfl) (K_t rfl) .nil)) rfl rfl rfl) ?_
      refine X_op' rfl (A_stV rfl rfl rfl (V_t rfl) (K_t rfl) rfl rfl rfl rfl rfl rfl rfl) ?_
      refine X_endS ?_
      try dsimp only [St.put, szA, List.length, Nat.reduceAdd]
      refine W_ret ?_
      rw [(low_div (x := x) (y := y) (g := g) hy0 hg).2.1 (by have := (low_div (x := x) (y := y) (g := g) hy0 hg).2.2; omega)]
      exact end_R rfl (.c rfl (ld_mp rfl rfl rfl rfl rfl rfl) .nil)
     ·have khb6 := hb6; (try simp only [kb] at khb6)
      refine W_skip ?_
      refine Q_seq ?_
      refine wsr ?_
      refine X_op' rfl (A_ld rfl rfl rfl (ld_mp rfl rfl rfl rfl rfl rfl)) ?_
      refine X_op' rfl (A_faM rfl rfl rfl rfl rfl) ?_
      refine X_op' rfl (A_ld rfl rfl rfl (ld_fd1 rfl rfl rfl rfl rfl rfl rfl)) ?_
      refine X_op' rfl (A_build rfl rfl rfl (.cons (V_t rfl) (K_t rfl) (.cons (V_t rfl) (K_t rfl) .nil)) rfl rfl rfl) ?_
      refine X_op' rfl (A_stV rfl rfl rfl (V_t rfl) (K_t rfl) rfl rfl rfl rfl rfl rfl rfl) ?_
      refine X_endS ?_
      try dsimp only [St.put, szA, List.length, Nat.reduceAdd]
      refine W_ret ?_
      rw [(low_div (x := x) (y := y) (g := g) hy0 hg).1 (by have := (low_div (x := x) (y := y) (g := g) hy0 hg).2.2; omega)]
      exact end_R rfl (.c rfl (ld_mp rfl rfl rfl rfl rfl rfl) .nil)
  exact (if_pos rfl).trans (run _ (by simp only [fu39]; omega) _ rfl)
theorem c39r {b : Bool} {l k : List Int} (h : U32 l) (hl : l.length ≤ 17179869183) (h' : U32 k) (hk : k.length ≤ 17179869183) : g39 [tz b l, tz false k] = some (.ts [tc (Rat.divInt (ivI b l) (nv k))]) := c39 h hl h' hk
def keep38 : Nat → List Nat := fun _ => []
noncomputable def sp38 : Nat → Option Spec := (more 39 (viewSpec g39) noneS)
theorem hs38 : ∀ f s, sp38 f = some s → SpecOk Tryz.prog f s := (more_ok s39 none_ok)
noncomputable def fu38 : List T → Nat := fun _ => 4398046511104
noncomputable def g38 : List T → Option Ret := fun ts => if ts.length = 1 then pureRun ty sp38 keep38 (fu38 ts) false Tryz.f38.results (Tryz.f38.body.getD .skip) ts else none
theorem s38 : SpecOk Tryz.prog 38 (viewSpec g38) := pure_ok mixed ty_ok hs38 Tryz.func38 rfl (by kernel_rfl) (enters_of Tryz.func38 (by kernel_rfl) rfl) keep38 fu38 false 1 (by decide)
set_option maxHeartbeats 4000000 in
theorem c38 {n : Nat} {b : Bool} {l k : List Int} (w : Rw n b l k) (hn : n ≤ 17179869183) : g38 [tq b l k] = some (.ts [tc (rv b l k)]) := by
  have run : ∀ (fuel : Nat) (hf : 1099511627776 < fuel) (c : Code) (hc : Tryz.f38.body = some c), pureRun ty sp38 keep38 fuel false Tryz.f38.results c [tq b l k] = some (.ts [tc (rv b l k)]) := by
   intro fuel hf c hc
   injection hc with hc
   subst hc
   refine pure_wc ?_
   refine wsr ?_
   refine X_op' rfl (A_box rfl rfl (V_t rfl) (K_t rfl) rfl rfl rfl) ?_
   refine X_op' rfl (A_alloc rfl rfl) ?_
   refine X_endS ?_
   try dsimp only [St.put, szA, List.length, Nat.reduceAdd]
   refine wsr ?_
   refine X_op' rfl (A_faM rfl rfl rfl rfl rfl) ?_
   refine X_op' rfl (A_ld rfl rfl rfl (ld_fd2 rfl rfl rfl rfl rfl rfl rfl rfl)) ?_
   refine X_op' rfl (A_faM rfl rfl rfl rfl rfl) ?_
   refine X_op' rfl (A_ld rfl rfl rfl (ld_fd1 rfl rfl rfl rfl rfl rfl rfl)) ?_
   refine X_op' rfl (A_build rfl rfl rfl (.cons (V_t rfl) (K_t rfl) .nil) rfl rfl rfl) ?_
   refine X_op' rfl (A_callV rfl rfl rfl rfl (.cons (V_t rfl) (K_t rfl) (.cons (V_t rfl) (K_t rfl) .nil)) (c39r w.ul (by have := w.ll; omega) w.uk (by have := w.lk; omega))) ?_
   refine X_op' rfl (A_stV rfl rfl rfl (V_t rfl) (K_t rfl) rfl rfl rfl rfl rfl rfl rfl) ?_
   refine X_endS ?_
   try dsimp only [St.put, szA, List.length, Nat.reduceAdd]
   refine W_ret ?_
   rw [show tc (rv b l k) = tc (Rat.divInt (ivI b l) (nv k)) from rfl]
   exact end_R rfl (.c rfl (ld_mp rfl rfl rfl rfl rfl rfl) .nil)
  exact (if_pos rfl).trans (run _ (by simp only [fu38]; omega) _ rfl)
def keep42 : Nat → List Nat := fun _ => []
noncomputable def sp42 : Nat → Option Spec := (more 38 (viewSpec g38) noneS)
theorem hs42 : ∀ f s, sp42 f = some s → SpecOk Tryz.prog f s := (more_ok s38 none_ok)
noncomputable def fu42 : List T → Nat := fun _ => 4398046511104
noncomputable def g42 : List T → Option Ret := fun ts => if ts.length = 1 then pureRun ty sp42 keep42 (fu42 ts) false Tryz.f42.results (Tryz.f42.body.getD .skip) ts else none
theorem s42 : SpecOk Tryz.prog 42 (viewSpec g42) := pure_ok mixed ty_ok hs42 Tryz.func42 rfl (by kernel_rfl) (enters_of Tryz.func42 (by kernel_rfl) rfl) keep42 fu42 false 1 (by decide)
set_option maxHeartbeats 4000000 in
theorem c42 {n : Nat} {b : Bool} {l k : List Int} (w : Rw n b l k) (hn : n ≤ 17179869183) : g42 [tq b l k] = some (.ts [tz false (en ((rv b l k).den : Int))]) := by
  have run : ∀ (fuel : Nat) (hf : 1099511627776 < fuel) (c : Code) (hc : Tryz.f42.body = some c), pureRun ty sp42 keep42 fuel false Tryz.f42.results c [tq b l k] = some (.ts [tz false (en ((rv b l k).den : Int))]) := by
   intro fuel hf c hc
   injection hc with hc
   subst hc
   refine pure_wc ?_
   refine wsr ?_
   refine X_op' rfl (A_box rfl rfl (V_t rfl) (K_t rfl) rfl rfl rfl) ?_
   refine X_op' rfl (A_alloc rfl rfl) ?_
   refine X_endS ?_
   try dsimp only [St.put, szA, List.length, Nat.reduceAdd]
   refine wsr ?_
   refine X_op' rfl (A_ld rfl rfl rfl (ld_mp rfl rfl rfl rfl rfl rfl)) ?_
   refine X_op' rfl (A_callV rfl rfl rfl rfl (.cons (V_t rfl) (K_t rfl) .nil) (c38 w (by omega))) ?_
   refine X_op' rfl (A_fd1 rfl rfl rfl rfl rfl rfl rfl rfl) ?_
   refine X_op' rfl (A_build rfl rfl rfl (.cons (V_t rfl) (K_t rfl) .nil) rfl rfl rfl) ?_
   refine X_op' rfl (A_stV rfl rfl rfl (V_t rfl) (K_t rfl) rfl rfl rfl rfl rfl rfl rfl) ?_
   refine X_endS ?_
   try dsimp only [St.put, szA, List.length, Nat.reduceAdd]
   refine W_ret ?_
   exact end_R rfl (.c rfl (ld_mp rfl rfl rfl rfl rfl rfl) .nil)
  exact (if_pos rfl).trans (run _ (by simp only [fu42]; omega) _ rfl)
def keep18 : Nat → List Nat := fun _ => []
noncomputable def sp18 : Nat → Option Spec := (more 43 (viewSpec g43) (more 39 (viewSpec g39) noneS))
theorem hs18 : ∀ f s, sp18 f = some s → SpecOk Tryz.prog f s := (more_ok s43 (more_ok s39 none_ok))
noncomputable def fu18 : List T → Nat := fun _ => 4398046511104
noncomputable def g18 : List T → Option Ret := fun ts => if ts.length = 1 then pureRun ty sp18 keep18 (fu18 ts) false Tryz.f18.results (Tryz.f18.body.getD .skip) ts else none
theorem s18 : SpecOk Tryz.prog 18 (viewSpec g18) := pure_ok mixed ty_ok hs18 Tryz.func18 rfl (by kernel_rfl) (enters_of Tryz.func18 (by kernel_rfl) rfl) keep18 fu18 false 1 (by decide)
set_option maxHeartbeats 4000000 in
theorem c18 {v : Int} (h0 : -9223372036854775808 ≤ v) (h1 : v < 9223372036854775808) : g18 [.v (.int .i64 v)] = some (.ts [tc (v : Rat)]) := by
  have run : ∀ (fuel : Nat) (hf : 1099511627776 < fuel) (c : Code) (hc : Tryz.f18.body = some c), pureRun ty sp18 keep18 fuel false Tryz.f18.results c [.v (.int .i64 v)] = some (.ts [tc (v : Rat)]) := by
   intro fuel hf c hc
   injection hc with hc
   subst hc
   have l2 : ∀ z : Int, -9223372036854775808 ≤ z → z < 9223372036854775808 → (en (if z < 0 then -z else z)).length ≤ 2 := fun z z0 z1 => te_len (by rw [P2]; omega)
   have l3 := l2 v h0 h1
   have l4 := l2 1 (by omega) (by omega)
   refine pure_wc ?_
   refine wsr ?_
   refine X_op' rfl (A_alloc rfl rfl) ?_
   refine X_endS ?_
   try dsimp only [St.put, szA, List.length, Nat.reduceAdd]
   refine wsr ?_
   refine xm rfl rfl rfl rfl ?_
   refine X_op' rfl (A_callV rfl rfl rfl rfl (.cons (V_t rfl) (K_t rfl) .nil) (c43 (by omega) (by omega))) ?_
   refine X_op' rfl (A_callV rfl rfl rfl rfl (.cons (V_t rfl) (K_t rfl) .nil) (c43 (by omega) (by omega))) ?_
   refine X_op' rfl (A_callV rfl rfl rfl rfl (.cons (V_t rfl) (K_t rfl) (.cons (V_t rfl) (K_t rfl) .nil)) ((c39 (U32_en _) (by omega) (U32_en _) (by omega)).trans (show some (Ret.ts [tc (Rat.divInt (ivI (decide (v < 0)) (en (if v < 0 then -v else v))) (ivI (decide ((1 : Int) < 0)) (en (if (1 : Int) < 0 then -(1 : Int) else (1 : Int)))))]) = some (Ret.ts [tc (v : Rat)]) by rw [iv_te, iv_te, rv_int]))) ?_
   refine X_op' rfl (A_stV rfl rfl rfl (V_t rfl) (K_t rfl) rfl rfl rfl rfl rfl rfl rfl) ?_
   refine X_endS ?_
   try dsimp only [St.put, szA, List.length, Nat.reduceAdd]
   refine W_ret ?_
   exact end_R rfl (.c rfl (ld_mp rfl rfl rfl rfl rfl rfl) .nil)
  exact (if_pos rfl).trans (run _ (by simp only [fu18]; omega) _ rfl)
def keep26 : Nat → List Nat := fun _ => []
noncomputable def sp26 : Nat → Option Spec := (more 43 (viewSpec g43) (more 39 (viewSpec g39) noneS))
theorem hs26 : ∀ f s, sp26 f = some s → SpecOk Tryz.prog f s := (more_ok s43 (more_ok s39 none_ok))
noncomputable def fu26 : List T → Nat := fun _ => 4398046511104
noncomputable def g26 : List T → Option Ret := fun ts => if ts.length = 2 then pureRun ty sp26 keep26 (fu26 ts) false Tryz.f26.results (Tryz.f26.body.getD .skip) ts else none
theorem s26 : SpecOk Tryz.prog 26 (viewSpec g26) := pure_ok mixed ty_ok hs26 Tryz.func26 rfl (by kernel_rfl) (enters_of Tryz.func26 (by kernel_rfl) rfl) keep26 fu26 false 2 (by decide)
set_option maxHeartbeats 4000000 in
theorem c26 {v u : Int} (h0 : -9223372036854775808 ≤ v) (h1 : v < 9223372036854775808) (h2 : -9223372036854775808 ≤ u) (h3 : u < 9223372036854775808) : g26 [.v (.int .i64 v), .v (.int .i64 u)] = some (.ts [tc (Rat.divInt v u)]) := by
  have run : ∀ (fuel : Nat) (hf : 1099511627776 < fuel) (c : Code) (hc : Tryz.f26.body = some c), pureRun ty sp26 keep26 fuel false Tryz.f26.results c [.v (.int .i64 v), .v (.int .i64 u)] = some (.ts [tc (Rat.divInt v u)]) := by
   intro fuel hf c hc
   injection hc with hc
   subst hc
   have l2 : ∀ z : Int, -9223372036854775808 ≤ z → z < 9223372036854775808 → (en (if z < 0 then -z else z)).length ≤ 2 := fun z z0 z1 => te_len (by rw [P2]; omega)
   have l3 := l2 v h0 h1
   have l4 := l2 u h2 h3
   refine pure_wc ?_
   refine wsr ?_
   refine X_op' rfl (A_alloc rfl rfl) ?_
   refine X_endS ?_
   try dsimp only [St.put, szA, List.length, Nat.reduceAdd]
   refine wsr ?_
   refine xm rfl rfl rfl rfl ?_
   refine X_op' rfl (A_callV rfl rfl rfl rfl (.cons (V_t rfl) (K_t rfl) .nil) (c43 (by omega) (by omega))) ?_
   refine xm rfl rfl rfl rfl ?_
   refine X_op' rfl (A_callV rfl rfl rfl rfl (.cons (V_t rfl) (K_t rfl) .nil) (c43 (by omega) (by omega))) ?_
   refine X_op' rfl (A_callV rfl rfl rfl rfl (.cons (V_t rfl) (K_t rfl) (.cons (V_t rfl) (K_t rfl) .nil)) ((c39 (U32_en _) (by omega) (U32_en _) (by omega)).trans (show some (Ret.ts [tc (Rat.divInt (ivI (decide (v < 0)) (en (if v < 0 then -v else v))) (ivI (decide (u < 0)) (en (if u < 0 then -u else u))))]) = some (Ret.ts [tc (Rat.divInt v u)]) by rw [iv_te, iv_te]))) ?_
   refine X_op' rfl (A_stV rfl rfl rfl (V_t rfl) (K_t rfl) rfl rfl rfl rfl rfl rfl rfl) ?_
   refine X_endS ?_
   try dsimp only [St.put, szA, List.length, Nat.reduceAdd]
   refine W_ret ?_
   exact end_R rfl (.c rfl (ld_mp rfl rfl rfl rfl rfl rfl) .nil)
  exact (if_pos rfl).trans (run _ (by simp only [fu26]; omega) _ rfl)
def keep30 : Nat → List Nat := fun _ => []
noncomputable def sp30 : Nat → Option Spec := (more 38 (viewSpec g38) (more 58 (viewSpec g58) noneS))
theorem hs30 : ∀ f s, sp30 f = some s → SpecOk Tryz.prog f s := (more_ok s38 (more_ok s58 none_ok))
noncomputable def fu30 : List T → Nat := fun _ => 4398046511104
noncomputable def g30 : List T → Option Ret := fun ts => if ts.length = 1 then pureRun ty sp30 keep30 (fu30 ts) false Tryz.f30.results (Tryz.f30.body.getD .skip) ts else none
theorem s30 : SpecOk Tryz.prog 30 (viewSpec g30) := pure_ok mixed ty_ok hs30 Tryz.func30 rfl (by kernel_rfl) (enters_of Tryz.func30 (by kernel_rfl) rfl) keep30 fu30 false 1 (by decide)
set_option maxHeartbeats 4000000 in
theorem c30 {n : Nat} {b : Bool} {l k : List Int} (w : Rw n b l k) (hn0 : 0 < n) (hn : n ≤ 1073741824) : g30 [tq b l k] = some (.ts [.v (.int .i64 (sgQ (rv b l k)))]) := by
  have run : ∀ (fuel : Nat) (hf : 1099511627776 < fuel) (c : Code) (hc : Tryz.f30.body = some c), pureRun ty sp30 keep30 fuel false Tryz.f30.results c [tq b l k] = some (.ts [.v (.int .i64 (sgQ (rv b l k)))]) := by
   intro fuel hf c hc
   injection hc with hc
   subst hc
   have f := Rw.can (w.fit hn0)
   have f1 := f.ll
   have f2 := f.lk
   refine pure_wc ?_
   refine wsr ?_
   refine X_op' rfl (A_box rfl rfl (V_t rfl) (K_t rfl) rfl rfl rfl) ?_
   refine xa rfl rfl rfl rfl ?_
   refine X_endS ?_
   try dsimp only [St.put, szA, List.length, Nat.reduceAdd]
   refine wsr ?_
   refine X_op' rfl (A_ld rfl rfl rfl (ld_mp rfl rfl rfl rfl rfl rfl)) ?_
   refine X_op' rfl (A_callV rfl rfl rfl rfl (.cons (V_t rfl) (K_t rfl) .nil) (c38 w (by omega))) ?_
   refine X_op' rfl (A_fd2 rfl rfl rfl rfl rfl rfl rfl rfl rfl) ?_
   refine X_op' rfl (A_callV rfl rfl rfl rfl (.cons (V_t rfl) (K_t rfl) .nil) ((c58 (U32_en _) (by omega)).trans (show some (Ret.ts [.v (.int .i64 (sgI (ivI (decide ((rv b l k).num < 0)) (en ((rv b l k).num.natAbs : Int)))))]) = some (Ret.ts [.v (.int .i64 (sgQ (rv b l k)))]) by rw [iv_can]; rfl))) ?_
   refine xa rfl rfl rfl rfl ?_
   refine X_endS ?_
   try dsimp only [St.put, szA, List.length, Nat.reduceAdd]
   refine W_ret ?_
   exact end_R rfl (.t rfl .nil)
  exact (if_pos rfl).trans (run _ (by simp only [fu30]; omega) _ rfl)
theorem neg_can (q : Rat) : Rat.divInt (-q.num) (q.den : Int) = -q := by rw [← Rat.neg_divInt, Rat.num_divInt_den]
theorem nv_den (q : Rat) : nv (en (q.den : Int)) = (q.den : Int) := nv_en (by omega)
def keep23 : Nat → List Nat := fun _ => []
noncomputable def sp23 : Nat → Option Spec := (more 38 (viewSpec g38) (more 54 (viewSpec g54) (more 42 (viewSpec g42) (more 39 (viewSpec g39) noneS))))
theorem hs23 : ∀ f s, sp23 f = some s → SpecOk Tryz.prog f s := (more_ok s38 (more_ok s54 (more_ok s42 (more_ok s39 none_ok))))
noncomputable def fu23 : List T → Nat := fun _ => 4398046511104
noncomputable def g23 : List T → Option Ret := fun ts => if ts.length = 1 then pureRun ty sp23 keep23 (fu23 ts) false Tryz.f23.results (Tryz.f23.body.getD .skip) ts else none
theorem s23 : SpecOk Tryz.prog 23 (viewSpec g23) := pure_ok mixed ty_ok hs23 Tryz.func23 rfl (by kernel_rfl) (enters_of Tryz.func23 (by kernel_rfl) rfl) keep23 fu23 false 1 (by decide)
set_option maxHeartbeats 4000000 in
theorem c23 {n : Nat} {b : Bool} {l k : List Int} (w : Rw n b l k) (hn0 : 0 < n) (hn : n ≤ 1073741824) : g23 [tq b l k] = some (.ts [tc (- rv b l k)]) := by
  have run : ∀ (fuel : Nat) (hf : 1099511627776 < fuel) (c : Code) (hc : Tryz.f23.body = some c), pureRun ty sp23 keep23 fuel false Tryz.f23.results c [tq b l k] = some (.ts [tc (- rv b l k)]) := by
   intro fuel hf c hc
   injection hc with hc
   subst hc
   have f := Rw.can (w.fit hn0)
   have f1 := f.ll
   have f2 := f.lk
   have l5 : (en (if -(rv b l k).num < 0 then - -(rv b l k).num else -(rv b l k).num)).length ≤ n := te_len (by rw [Int.natAbs_neg]; exact (w.fit hn0).1)
   refine pure_wc ?_
   refine wsr ?_
   refine X_op' rfl (A_box rfl rfl (V_t rfl) (K_t rfl) rfl rfl rfl) ?_
   refine X_op' rfl (A_alloc rfl rfl) ?_
   refine X_endS ?_
   try dsimp only [St.put, szA, List.length, Nat.reduceAdd]
   refine wsr ?_
   refine X_op' rfl (A_ld rfl rfl rfl (ld_mp rfl rfl rfl rfl rfl rfl)) ?_
   refine X_op' rfl (A_callV rfl rfl rfl rfl (.cons (V_t rfl) (K_t rfl) .nil) (c38 w (by omega))) ?_
   refine X_op' rfl (A_fd2 rfl rfl rfl rfl rfl rfl rfl rfl rfl) ?_
   refine X_op' rfl (A_callV rfl rfl rfl rfl (.cons (V_t rfl) (K_t rfl) .nil) ((c54 (U32_en _) (by omega)).trans (show some (Ret.ts [te (- ivI (decide ((rv b l k).num < 0)) (en ((rv b l k).num.natAbs : Int)))]) = some (Ret.ts [te (-(rv b l k).num)]) by rw [iv_can]))) ?_
   refine X_op' rfl (A_ld rfl rfl rfl (ld_mp rfl rfl rfl rfl rfl rfl)) ?_
   refine X_op' rfl (A_callV rfl rfl rfl rfl (.cons (V_t rfl) (K_t rfl) .nil) (c42 w (by omega))) ?_
   refine X_op' rfl (A_callV rfl rfl rfl rfl (.cons (V_t rfl) (K_t rfl) (.cons (V_t rfl) (K_t rfl) .nil)) ((c39r (U32_en _) (by omega) (U32_en _) (by omega)).trans (show some (Ret.ts [tc (Rat.divInt (ivI (decide ((-(rv b l k).num) < 0)) (en (if (-(rv b l k).num) < 0 then -(-(rv b l k).num) else (-(rv b l k).num)))) (nv (en ((rv b l k).den : Int))))]) = some (Ret.ts [tc (-(rv b l k))]) by rw [iv_te, nv_den, neg_can]))) ?_
   refine X_op' rfl (A_stV rfl rfl rfl (V_t rfl) (K_t rfl) rfl rfl rfl rfl rfl rfl rfl) ?_
   refine X_endDS (by kernel_rfl) (by kernel_rfl) ?_
   try dsimp only [St.put, szA, List.length, Nat.reduceAdd]
   refine W_ret ?_
   exact end_R rfl (.c rfl (ld_mp rfl rfl rfl rfl rfl rfl) .nil)
  exact (if_pos rfl).trans (run _ (by simp only [fu23]; omega) _ rfl)
theorem c41r {b : Bool} {l k : List Int} (h : U32 l) (hl : l.length ≤ 274877906944) (h' : U32 k) (hk : k.length ≤ 274877906944) : g41 [tz b l, tz false k] = some (.ts [te (ivI b l * nv k)]) := c41 h hl h' hk
theorem c41l {d : Bool} {l k : List Int} (h : U32 l) (hl : l.length ≤ 274877906944) (h' : U32 k) (hk : k.length ≤ 274877906944) : g41 [tz false l, tz d k] = some (.ts [te (nv l * ivI d k)]) := c41 h hl h' hk
theorem c41d {l k : List Int} (h : U32 l) (hl : l.length ≤ 274877906944) (h' : U32 k) (hk : k.length ≤ 274877906944) : g41 [tz false l, tz false k] = some (.ts [te (nv l * nv k)]) := c41 h hl h' hk
theorem add_can (p q : Rat) : Rat.divInt (p.num * (q.den : Int) + q.num * (p.den : Int)) ((p.den : Int) * (q.den : Int)) = p + q := by
  have h1 := p.den_nz
  have h2 := q.den_nz
  rw [← Rat.divInt_add_divInt _ _ (by omega) (by omega), Rat.num_divInt_den, Rat.num_divInt_den]
theorem mul_can (p q : Rat) : Rat.divInt (p.num * q.num) ((p.den : Int) * (q.den : Int)) = p * q := by
  rw [← Rat.divInt_mul_divInt, Rat.num_divInt_den, Rat.num_divInt_den]
theorem div_can (p q : Rat) : Rat.divInt (p.num * (q.den : Int)) ((p.den : Int) * q.num) = p / q := by
  have h1 := p.den_nz
  have h2 := q.den_nz
  rw [← divInt_div _ _ _ _ (by omega) (by omega), Rat.num_divInt_den, Rat.num_divInt_den]
theorem mul_len {x y : Int} {n : Nat} (hx : (x.natAbs : Int) < P n) (hy : (y.natAbs : Int) < P n) : (en (if x * y < 0 then -(x * y) else x * y)).length ≤ n + n := te_len (natAbs_mul_lt hx hy)
theorem add_len2 {x y : Int} {n : Nat} (hx : (x.natAbs : Int) < P n) (hy : (y.natAbs : Int) < P n) : (en (if x + y < 0 then -(x + y) else x + y)).length ≤ n + 1 := te_len (by have := Int.natAbs_add_le x y; have := @two_P n; omega)
theorem den_abs {n : Nat} {q : Rat} (h : Fit n q) : (((q.den : Int)).natAbs : Int) < P n := by have := h.2; omega
def keep16 : Nat → List Nat := fun _ => []
noncomputable def sp16 : Nat → Option Spec := (more 38 (viewSpec g38) (more 42 (viewSpec g42) (more 41 (viewSpec g41) (more 40 (viewSpec g40) (more 39 (viewSpec g39) noneS)))))
theorem hs16 : ∀ f s, sp16 f = some s → SpecOk Tryz.prog f s := (more_ok s38 (more_ok s42 (more_ok s41 (more_ok s40 (more_ok s39 none_ok)))))
noncomputable def fu16 : List T → Nat := fun _ => 4398046511104
noncomputable def g16 : List T → Option Ret := fun ts => if ts.length = 2 then pureRun ty sp16 keep16 (fu16 ts) false Tryz.f16.results (Tryz.f16.body.getD .skip) ts else none
theorem s16 : SpecOk Tryz.prog 16 (viewSpec g16) := pure_ok mixed ty_ok hs16 Tryz.func16 rfl (by kernel_rfl) (enters_of Tryz.func16 (by kernel_rfl) rfl) keep16 fu16 false 2 (by decide)
set_option maxHeartbeats 4000000 in
theorem c16 {n : Nat} {b : Bool} {l k : List Int} {d : Bool} {u v : List Int} (w1 : Rw n b l k) (w2 : Rw n d u v) (hn0 : 0 < n) (hn : n ≤ 1073741824) : g16 [tq b l k, tq d u v] = some (.ts [tc (rv b l k + rv d u v)]) := by
  have run : ∀ (fuel : Nat) (hf : 1099511627776 < fuel) (c : Code) (hc : Tryz.f16.body = some c), pureRun ty sp16 keep16 fuel false Tryz.f16.results c [tq b l k, tq d u v] = some (.ts [tc (rv b l k + rv d u v)]) := by
   intro fuel hf c hc
   injection hc with hc
   subst hc
   have f := Rw.can (w1.fit hn0)
   have f1 := f.ll
   have f2 := f.lk
   have e := Rw.can (w2.fit hn0)
   have e1 := e.ll
   have e2 := e.lk
   have F1 := w1.fit hn0
   have F2 := w2.fit hn0
   have m1 := mul_len F1.1 (den_abs F2)
   have m2 := mul_len F2.1 (den_abs F1)
   have m3 := mul_len (den_abs F1) (den_abs F2)
   have m4 := add_len2 (natAbs_mul_lt F1.1 (den_abs F2)) (natAbs_mul_lt F2.1 (den_abs F1))
   have m5 := mul_len F1.1 F2.1
   have m6 := mul_len (den_abs F1) F2.1
   refine pure_wc ?_
   refine wsr ?_
   refine X_op' rfl (A_box rfl rfl (V_t rfl) (K_t rfl) rfl rfl rfl) ?_
   refine X_op' rfl (A_box rfl rfl (V_t rfl) (K_t rfl) rfl rfl rfl) ?_
   refine X_op' rfl (A_alloc rfl rfl) ?_
   refine X_endS ?_
   try dsimp only [St.put, szA, List.length, Nat.reduceAdd]
   refine wsr ?_
   refine X_op' rfl (A_ld rfl rfl rfl (ld_mp rfl rfl rfl rfl rfl rfl)) ?_
   refine X_op' rfl (A_callV rfl rfl rfl rfl (.cons (V_t rfl) (K_t rfl) .nil) (c38 w1 (by omega))) ?_
   refine X_op' rfl (A_ld rfl rfl rfl (ld_mp rfl rfl rfl rfl rfl rfl)) ?_
   refine X_op' rfl (A_callV rfl rfl rfl rfl (.cons (V_t rfl) (K_t rfl) .nil) (c38 w2 (by omega))) ?_
   refine X_op' rfl (A_alloc rfl rfl) ?_
   refine X_op' rfl (A_alloc rfl rfl) ?_
   refine X_op' rfl (A_stV rfl rfl rfl (V_t rfl) (K_t rfl) rfl rfl rfl rfl rfl rfl rfl) ?_
   refine X_op' rfl (A_stV rfl rfl rfl (V_t rfl) (K_t rfl) rfl rfl rfl rfl rfl rfl rfl) ?_
   refine X_endDS (by kernel_rfl) (by kernel_rfl) ?_
   try dsimp only [St.put, szA, List.length, Nat.reduceAdd]
   refine wsr ?_
   refine X_op' rfl (A_faM rfl rfl rfl rfl rfl) ?_
   refine X_op' rfl (A_ld rfl rfl rfl (ld_fd2 rfl rfl rfl rfl rfl rfl rfl rfl)) ?_
   refine X_op' rfl (A_ld rfl rfl rfl (ld_mp rfl rfl rfl rfl rfl rfl)) ?_
   refine X_op' rfl (A_callV rfl rfl rfl rfl (.cons (V_t rfl) (K_t rfl) .nil) (c42 w2 (by omega))) ?_
   refine X_op' rfl (A_callV rfl rfl rfl rfl (.cons (V_t rfl) (K_t rfl) (.cons (V_t rfl) (K_t rfl) .nil)) ((c41r (U32_en _) (by omega) (U32_en _) (by omega)).trans (show some (Ret.ts [te (ivI (decide ((rv b l k).num < 0)) (en ((rv b l k).num.natAbs : Int)) * nv (en ((rv d u v).den : Int)))]) = some (Ret.ts [te (((rv b l k).num) * ((rv d u v).den : Int))]) by rw [iv_can, nv_den]))) ?_
   refine X_op' rfl (A_faM rfl rfl rfl rfl rfl) ?_
   refine X_op' rfl (A_ld rfl rfl rfl (ld_fd2 rfl rfl rfl rfl rfl rfl rfl rfl)) ?_
   refine X_op' rfl (A_ld rfl rfl rfl (ld_mp rfl rfl rfl rfl rfl rfl)) ?_
   refine X_op' rfl (A_callV rfl rfl rfl rfl (.cons (V_t rfl) (K_t rfl) .nil) (c42 w1 (by omega))) ?_
   refine X_op' rfl (A_callV rfl rfl rfl rfl (.cons (V_t rfl) (K_t rfl) (.cons (V_t rfl) (K_t rfl) .nil)) ((c41r (U32_en _) (by omega) (U32_en _) (by omega)).trans (show some (Ret.ts [te (ivI (decide ((rv d u v).num < 0)) (en ((rv d u v).num.natAbs : Int)) * nv (en ((rv b l k).den : Int)))]) = some (Ret.ts [te (((rv d u v).num) * ((rv b l k).den : Int))]) by rw [iv_can, nv_den]))) ?_
   refine X_op' rfl (A_callV rfl rfl rfl rfl (.cons (V_t rfl) (K_t rfl) (.cons (V_t rfl) (K_t rfl) .nil)) ((c40 (U32_en _) (by omega) (U32_en _) (by omega)).trans (show some (Ret.ts [te (ivI (decide ((((rv b l k).num) * ((rv d u v).den : Int)) < 0)) (en (if (((rv b l k).num) * ((rv d u v).den : Int)) < 0 then -(((rv b l k).num) * ((rv d u v).den : Int)) else (((rv b l k).num) * ((rv d u v).den : Int)))) + ivI (decide ((((rv d u v).num) * ((rv b l k).den : Int)) < 0)) (en (if (((rv d u v).num) * ((rv b l k).den : Int)) < 0 then -(((rv d u v).num) * ((rv b l k).den : Int)) else (((rv d u v).num) * ((rv b l k).den : Int)))))]) = some (Ret.ts [te (((rv b l k).num) * ((rv d u v).den : Int) + ((rv d u v).num) * ((rv b l k).den : Int))]) by rw [iv_te, iv_te]))) ?_
   refine X_op' rfl (A_ld rfl rfl rfl (ld_mp rfl rfl rfl rfl rfl rfl)) ?_
   refine X_op' rfl (A_callV rfl rfl rfl rfl (.cons (V_t rfl) (K_t rfl) .nil) (c42 w1 (by omega))) ?_
   refine X_op' rfl (A_ld rfl rfl rfl (ld_mp rfl rfl rfl rfl rfl rfl)) ?_
   refine X_op' rfl (A_callV rfl rfl rfl rfl (.cons (V_t rfl) (K_t rfl) .nil) (c42 w2 (by omega))) ?_
   refine X_op' rfl (A_callV rfl rfl rfl rfl (.cons (V_t rfl) (K_t rfl) (.cons (V_t rfl) (K_t rfl) .nil)) ((c41d (U32_en _) (by omega) (U32_en _) (by omega)).trans (show some (Ret.ts [te (nv (en ((rv b l k).den : Int)) * nv (en ((rv d u v).den : Int)))]) = some (Ret.ts [te (((rv b l k).den : Int) * ((rv d u v).den : Int))]) by rw [nv_den, nv_den]))) ?_
   refine X_op' rfl (A_callV rfl rfl rfl rfl (.cons (V_t rfl) (K_t rfl) (.cons (V_t rfl) (K_t rfl) .nil)) ((c39 (U32_en _) (by omega) (U32_en _) (by omega)).trans (show some (Ret.ts [tc (Rat.divInt (ivI (decide ((((rv b l k).num) * ((rv d u v).den : Int) + ((rv d u v).num) * ((rv b l k).den : Int)) < 0)) (en (if (((rv b l k).num) * ((rv d u v).den : Int) + ((rv d u v).num) * ((rv b l k).den : Int)) < 0 then -(((rv b l k).num) * ((rv d u v).den : Int) + ((rv d u v).num) * ((rv b l k).den : Int)) else (((rv b l k).num) * ((rv d u v).den : Int) + ((rv d u v).num) * ((rv b l k).den : Int))))) (ivI (decide ((((rv b l k).den : Int) * ((rv d u v).den : Int)) < 0)) (en (if (((rv b l k).den : Int) * ((rv d u v).den : Int)) < 0 then -(((rv b l k).den : Int) * ((rv d u v).den : Int)) else (((rv b l k).den : Int) * ((rv d u v).den : Int))))))]) = some (Ret.ts [tc ((rv b l k) + (rv d u v))]) by rw [iv_te, iv_te, add_can]))) ?_
   refine X_op' rfl (A_stV rfl rfl rfl (V_t rfl) (K_t rfl) rfl rfl rfl rfl rfl rfl rfl) ?_
   refine X_endDS (by kernel_rfl) (by kernel_rfl) ?_
   try dsimp only [St.put, szA, List.length, Nat.reduceAdd]
   refine W_ret ?_
   exact end_R rfl (.c rfl (ld_mp rfl rfl rfl rfl rfl rfl) .nil)
  exact (if_pos rfl).trans (run _ (by simp only [fu16]; omega) _ rfl)
def keep29 : Nat → List Nat := fun _ => []
noncomputable def sp29 : Nat → Option Spec := (more 23 (viewSpec g23) (more 16 (viewSpec g16) noneS))
theorem hs29 : ∀ f s, sp29 f = some s → SpecOk Tryz.prog f s := (more_ok s23 (more_ok s16 none_ok))
noncomputable def fu29 : List T → Nat := fun _ => 4398046511104
noncomputable def g29 : List T → Option Ret := fun ts => if ts.length = 2 then pureRun ty sp29 keep29 (fu29 ts) false Tryz.f29.results (Tryz.f29.body.getD .skip) ts else none
theorem s29 : SpecOk Tryz.prog 29 (viewSpec g29) := pure_ok mixed ty_ok hs29 Tryz.func29 rfl (by kernel_rfl) (enters_of Tryz.func29 (by kernel_rfl) rfl) keep29 fu29 false 2 (by decide)
set_option maxHeartbeats 4000000 in
theorem c29 {n : Nat} {b : Bool} {l k : List Int} {d : Bool} {u v : List Int} (w1 : Rw n b l k) (w2 : Rw n d u v) (hn0 : 0 < n) (hn : n ≤ 1073741824) : g29 [tq b l k, tq d u v] = some (.ts [tc (rv b l k - rv d u v)]) := by
  have run : ∀ (fuel : Nat) (hf : 1099511627776 < fuel) (c : Code) (hc : Tryz.f29.body = some c), pureRun ty sp29 keep29 fuel false Tryz.f29.results c [tq b l k, tq d u v] = some (.ts [tc (rv b l k - rv d u v)]) := by
   intro fuel hf c hc
   injection hc with hc
   subst hc
   have g2 := Rw.can (fit_neg (w2.fit hn0))
   refine pure_wc ?_
   refine wsr ?_
   refine X_op' rfl (A_box rfl rfl (V_t rfl) (K_t rfl) rfl rfl rfl) ?_
   refine X_op' rfl (A_box rfl rfl (V_t rfl) (K_t rfl) rfl rfl rfl) ?_
   refine X_op' rfl (A_alloc rfl rfl) ?_
   refine X_endS ?_
   try dsimp only [St.put, szA, List.length, Nat.reduceAdd]
   refine wsr ?_
   refine X_op' rfl (A_ld rfl rfl rfl (ld_mp rfl rfl rfl rfl rfl rfl)) ?_
   refine X_op' rfl (A_ld rfl rfl rfl (ld_mp rfl rfl rfl rfl rfl rfl)) ?_
   refine X_op' rfl (A_callV rfl rfl rfl rfl (.cons (V_t rfl) (K_t rfl) .nil) (c23 w2 hn0 hn)) ?_
   refine X_op' rfl (A_callV rfl rfl rfl rfl (.cons (V_t rfl) (K_t rfl) (.cons (V_t rfl) (K_t rfl) .nil)) ((c16 w1 g2 hn0 hn).trans (show some (Ret.ts [tc ((rv b l k) + rv (decide ((-(rv d u v)).num < 0)) (en ((-(rv d u v)).num.natAbs : Int)) (en ((-(rv d u v)).den : Int)))]) = some (Ret.ts [tc ((rv b l k) - (rv d u v))]) by rw [tc_v, Rat.sub_eq_add_neg]))) ?_
   refine X_op' rfl (A_stV rfl rfl rfl (V_t rfl) (K_t rfl) rfl rfl rfl rfl rfl rfl rfl) ?_
   refine X_endDS (by kernel_rfl) (by kernel_rfl) ?_
   try dsimp only [St.put, szA, List.length, Nat.reduceAdd]
   refine W_ret ?_
   exact end_R rfl (.c rfl (ld_mp rfl rfl rfl rfl rfl rfl) .nil)
  exact (if_pos rfl).trans (run _ (by simp only [fu29]; omega) _ rfl)
def keep17 : Nat → List Nat := fun _ => []
noncomputable def sp17 : Nat → Option Spec := (more 38 (viewSpec g38) (more 41 (viewSpec g41) (more 42 (viewSpec g42) (more 39 (viewSpec g39) noneS))))
theorem hs17 : ∀ f s, sp17 f = some s → SpecOk Tryz.prog f s := (more_ok s38 (more_ok s41 (more_ok s42 (more_ok s39 none_ok))))
noncomputable def fu17 : List T → Nat := fun _ => 4398046511104
noncomputable def g17 : List T → Option Ret := fun ts => if ts.length = 2 then pureRun ty sp17 keep17 (fu17 ts) false Tryz.f17.results (Tryz.f17.body.getD .skip) ts else none
theorem s17 : SpecOk Tryz.prog 17 (viewSpec g17) := pure_ok mixed ty_ok hs17 Tryz.func17 rfl (by kernel_rfl) (enters_of Tryz.func17 (by kernel_rfl) rfl) keep17 fu17 false 2 (by decide)
set_option maxHeartbeats 4000000 in
theorem c17 {n : Nat} {b : Bool} {l k : List Int} {d : Bool} {u v : List Int} (w1 : Rw n b l k) (w2 : Rw n d u v) (hn0 : 0 < n) (hn : n ≤ 1073741824) : g17 [tq b l k, tq d u v] = some (.ts [tc (rv b l k * rv d u v)]) := by
  have run : ∀ (fuel : Nat) (hf : 1099511627776 < fuel) (c : Code) (hc : Tryz.f17.body = some c), pureRun ty sp17 keep17 fuel false Tryz.f17.results c [tq b l k, tq d u v] = some (.ts [tc (rv b l k * rv d u v)]) := by
   intro fuel hf c hc
   injection hc with hc
   subst hc
   have f := Rw.can (w1.fit hn0)
   have f1 := f.ll
   have f2 := f.lk
   have e := Rw.can (w2.fit hn0)
   have e1 := e.ll
   have e2 := e.lk
   have F1 := w1.fit hn0
   have F2 := w2.fit hn0
   have m1 := mul_len F1.1 (den_abs F2)
   have m2 := mul_len F2.1 (den_abs F1)
   have m3 := mul_len (den_abs F1) (den_abs F2)
   have m4 := add_len2 (natAbs_mul_lt F1.1 (den_abs F2)) (natAbs_mul_lt F2.1 (den_abs F1))
   have m5 := mul_len F1.1 F2.1
   have m6 := mul_len (den_abs F1) F2.1
   refine pure_wc ?_
   refine wsr ?_
   refine X_op' rfl (A_box rfl rfl (V_t rfl) (K_t rfl) rfl rfl rfl) ?_
   refine X_op' rfl (A_box rfl rfl (V_t rfl) (K_t rfl) rfl rfl rfl) ?_
   refine X_op' rfl (A_alloc rfl rfl) ?_
   refine X_endS ?_
   try dsimp only [St.put, szA, List.length, Nat.reduceAdd]
   refine wsr ?_
   refine X_op' rfl (A_ld rfl rfl rfl (ld_mp rfl rfl rfl rfl rfl rfl)) ?_
   refine X_op' rfl (A_callV rfl rfl rfl rfl (.cons (V_t rfl) (K_t rfl) .nil) (c38 w1 (by omega))) ?_
   refine X_op' rfl (A_fd2 rfl rfl rfl rfl rfl rfl rfl rfl rfl) ?_
   refine X_op' rfl (A_ld rfl rfl rfl (ld_mp rfl rfl rfl rfl rfl rfl)) ?_
   refine X_op' rfl (A_callV rfl rfl rfl rfl (.cons (V_t rfl) (K_t rfl) .nil) (c38 w2 (by omega))) ?_
   refine X_op' rfl (A_fd2 rfl rfl rfl rfl rfl rfl rfl rfl rfl) ?_
   refine X_op' rfl (A_callV rfl rfl rfl rfl (.cons (V_t rfl) (K_t rfl) (.cons (V_t rfl) (K_t rfl) .nil)) ((c41 (U32_en _) (by omega) (U32_en _) (by omega)).trans (show some (Ret.ts [te (ivI (decide ((rv b l k).num < 0)) (en ((rv b l k).num.natAbs : Int)) * ivI (decide ((rv d u v).num < 0)) (en ((rv d u v).num.natAbs : Int)))]) = some (Ret.ts [te (((rv b l k).num) * ((rv d u v).num))]) by rw [iv_can, iv_can]))) ?_
   refine X_op' rfl (A_ld rfl rfl rfl (ld_mp rfl rfl rfl rfl rfl rfl)) ?_
   refine X_op' rfl (A_callV rfl rfl rfl rfl (.cons (V_t rfl) (K_t rfl) .nil) (c42 w1 (by omega))) ?_
   refine X_op' rfl (A_ld rfl rfl rfl (ld_mp rfl rfl rfl rfl rfl rfl)) ?_
   refine X_op' rfl (A_callV rfl rfl rfl rfl (.cons (V_t rfl) (K_t rfl) .nil) (c42 w2 (by omega))) ?_
   refine X_op' rfl (A_callV rfl rfl rfl rfl (.cons (V_t rfl) (K_t rfl) (.cons (V_t rfl) (K_t rfl) .nil)) ((c41d (U32_en _) (by omega) (U32_en _) (by omega)).trans (show some (Ret.ts [te (nv (en ((rv b l k).den : Int)) * nv (en ((rv d u v).den : Int)))]) = some (Ret.ts [te (((rv b l k).den : Int) * ((rv d u v).den : Int))]) by rw [nv_den, nv_den]))) ?_
   refine X_op' rfl (A_callV rfl rfl rfl rfl (.cons (V_t rfl) (K_t rfl) (.cons (V_t rfl) (K_t rfl) .nil)) ((c39 (U32_en _) (by omega) (U32_en _) (by omega)).trans (show some (Ret.ts [tc (Rat.divInt (ivI (decide ((((rv b l k).num) * ((rv d u v).num)) < 0)) (en (if (((rv b l k).num) * ((rv d u v).num)) < 0 then -(((rv b l k).num) * ((rv d u v).num)) else (((rv b l k).num) * ((rv d u v).num))))) (ivI (decide ((((rv b l k).den : Int) * ((rv d u v).den : Int)) < 0)) (en (if (((rv b l k).den : Int) * ((rv d u v).den : Int)) < 0 then -(((rv b l k).den : Int) * ((rv d u v).den : Int)) else (((rv b l k).den : Int) * ((rv d u v).den : Int))))))]) = some (Ret.ts [tc ((rv b l k) * (rv d u v))]) by rw [iv_te, iv_te, mul_can]))) ?_
   refine X_op' rfl (A_stV rfl rfl rfl (V_t rfl) (K_t rfl) rfl rfl rfl rfl rfl rfl rfl) ?_
   refine X_endDS (by kernel_rfl) (by kernel_rfl) ?_
   try dsimp only [St.put, szA, List.length, Nat.reduceAdd]
   refine W_ret ?_
   exact end_R rfl (.c rfl (ld_mp rfl rfl rfl rfl rfl rfl) .nil)
  exact (if_pos rfl).trans (run _ (by simp only [fu17]; omega) _ rfl)
theorem sgQ_zero {q : Rat} : sgQ q = 0 ↔ q = 0 := by
  unfold sgQ
  rw [sgI_zero, Rat.num_eq_zero]
/-- A quotient, 0 (raw) by 0. -/
def ovT (p q : Rat) : T := if q = 0 then tq false [] [] else tc (p / q)
theorem div_ex (p q : Rat) : ∃ a x y ok, divQ p q = .ts [tq a x y, .v (.bool ok)] ∧ ovT p q = tq a x y := by
  unfold divQ ovT
  split
  · exact ⟨_, _, _, _, rfl, rfl⟩
  · exact ⟨_, _, _, _, rfl, rfl⟩
theorem sgQ_sub (p q : Rat) : sgQ (p - q) = cmpQ p q := by
  unfold sgQ cmpQ sgI
  have h1 : (p - q).num = 0 ↔ p = q := by rw [Rat.num_eq_zero]; constructor <;> intro h <;> grind
  have h2 : (p - q).num < 0 ↔ p < q := by
    rw [← Int.not_le, Rat.num_nonneg, Rat.not_le]
    constructor <;> intro h <;> grind
  simp only [h1, h2]
  by_cases e : p = q
  · rw [if_pos e, if_neg (by rw [e]; exact Rat.lt_irrefl), if_pos e]
  · rw [if_neg e]
    split <;> rfl
def keep14 : Nat → List Nat := fun _ => []
noncomputable def sp14 : Nat → Option Spec := (more 29 (viewSpec g29) (more 30 (viewSpec g30) noneS))
theorem hs14 : ∀ f s, sp14 f = some s → SpecOk Tryz.prog f s := (more_ok s29 (more_ok s30 none_ok))
noncomputable def fu14 : List T → Nat := fun _ => 4398046511104
noncomputable def g14 : List T → Option Ret := fun ts => if ts.length = 2 then pureRun ty sp14 keep14 (fu14 ts) false Tryz.f14.results (Tryz.f14.body.getD .skip) ts else none
theorem s14 : SpecOk Tryz.prog 14 (viewSpec g14) := pure_ok mixed ty_ok hs14 Tryz.func14 rfl (by kernel_rfl) (enters_of Tryz.func14 (by kernel_rfl) rfl) keep14 fu14 false 2 (by decide)
set_option maxHeartbeats 4000000 in
theorem c14 {n : Nat} {b : Bool} {l k : List Int} {d : Bool} {u v : List Int} (w1 : Rw n b l k) (w2 : Rw n d u v) (hn0 : 0 < n) (hn : n ≤ 536870911) : g14 [tq b l k, tq d u v] = some (.ts [.v (.int .i64 (cmpQ (rv b l k) (rv d u v)))]) := by
  have run : ∀ (fuel : Nat) (hf : 1099511627776 < fuel) (c : Code) (hc : Tryz.f14.body = some c), pureRun ty sp14 keep14 fuel false Tryz.f14.results c [tq b l k, tq d u v] = some (.ts [.v (.int .i64 (cmpQ (rv b l k) (rv d u v)))]) := by
   intro fuel hf c hc
   injection hc with hc
   subst hc
   have g2 := Rw.can (fit_sub (w1.fit hn0) (w2.fit hn0))
   rw [← sgQ_sub]
   refine pure_wc ?_
   refine wsr ?_
   refine X_op' rfl (A_box rfl rfl (V_t rfl) (K_t rfl) rfl rfl rfl) ?_
   refine X_op' rfl (A_box rfl rfl (V_t rfl) (K_t rfl) rfl rfl rfl) ?_
   refine xa rfl rfl rfl rfl ?_
   refine X_endS ?_
   try dsimp only [St.put, szA, List.length, Nat.reduceAdd]
   refine wsr ?_
   refine X_op' rfl (A_ld rfl rfl rfl (ld_mp rfl rfl rfl rfl rfl rfl)) ?_
   refine X_op' rfl (A_ld rfl rfl rfl (ld_mp rfl rfl rfl rfl rfl rfl)) ?_
   refine X_op' rfl (A_callV rfl rfl rfl rfl (.cons (V_t rfl) (K_t rfl) (.cons (V_t rfl) (K_t rfl) .nil)) (c29 w1 w2 hn0 (by omega))) ?_
   refine X_op' rfl (A_callV rfl rfl rfl rfl (.cons (V_t rfl) (K_t rfl) .nil) ((c30 g2 (by omega) (by omega)).trans (show some (Ret.ts [.v (.int .i64 (sgQ (rv (decide (((rv b l k) - (rv d u v)).num < 0)) (en (((rv b l k) - (rv d u v)).num.natAbs : Int)) (en (((rv b l k) - (rv d u v)).den : Int)))))]) = some (Ret.ts [.v (.int .i64 (sgQ ((rv b l k) - (rv d u v))))]) by rw [tc_v]))) ?_
   refine xa rfl rfl rfl rfl ?_
   refine X_endS ?_
   try dsimp only [St.put, szA, List.length, Nat.reduceAdd]
   refine W_ret ?_
   exact end_R rfl (.t rfl .nil)
  exact (if_pos rfl).trans (run _ (by simp only [fu14]; omega) _ rfl)
def maxQ (p q : Rat) : Rat := if p < q then q else p
theorem cmpQ_ge {p q : Rat} : 0 ≤ cmpQ p q ↔ ¬ p < q := by
  unfold cmpQ
  split
  · simp [*]
  · split <;> simp [*]
theorem floor_can (q : Rat) : q.num / (q.den : Int) = q.floor := by
  have h := div_floor q.num (q.den : Int) (by have := q.den_pos; omega)
  rw [Rat.num_divInt_den] at h
  exact h.symm
theorem c57r {b : Bool} {l k : List Int} (h : U32 l) (hl : l.length ≤ 17179869183) (h' : U32 k) (hk : k.length ≤ 17179869183) (h0 : nv k ≠ 0) : g57 [tz b l, tz false k] = some (.ts [te (ivI b l / nv k), te (ivI b l % nv k), .v (.bool true)]) := c57 h hl h' hk h0
def st24 (xs : List Rr) (s : Rat) (i : Int) : St := { tm := [(0, .t (tl xs)), (2, .mp 0 3 0 0), (3, .mp 1 3 0 0), (4, .t (.v (.int .i64 i)))], mm := [(0, some ⟨30, 3, [tq false [] []]⟩), (1, some ⟨30, 3, [tc s]⟩)], nx := 2 }
def absR (r : Rr) : Rr := if r.v < 0 then rc (- r.v) else r
theorem sgQ_neg {q : Rat} : sgQ q < 0 ↔ q < 0 := by
  unfold sgQ
  rw [sg_neg, ← Int.not_le, Rat.num_nonneg, Rat.not_le]
end Go.Ev.S
/- What the laws of the chapters 30, 40, 41 call: small functions. -/
set_option linter.unusedVariables false
set_option linter.unusedSimpArgs false
set_option maxRecDepth 100000
namespace Go.Ev.S
open Go Go.Ev Go.Proofs NumA
abbrev ii (z : Int) : T := .v (.int .i64 z)
abbrev ti (l : List Int) : T := .sl 1 (l.map ii)
theorem ti_one (l : List Int) : (l.map ii).all (fun t => t.cells.all T.one) = true := by
  rw [List.all_eq_true]; intro t ht; obtain ⟨z, _, rfl⟩ := List.mem_map.1 ht; rfl
/-- The first that is not 0. -/
def orI : List Int → Int
  | [] => 0
  | x :: l => if x ≠ 0 then x else orI l
theorem orI_zero : ∀ (l : List Int) (i : Nat), (∀ x ∈ l.take i, x = 0) → orI l = orI (l.drop i)
  | l, 0, _ => by simp
  | [], i + 1, _ => by simp
  | x :: l, i + 1, h => by
    have hx : x = 0 := h x (by simp)
    rw [List.drop_succ_cons, ← orI_zero l i fun y hy => h y (by simp [hy])]
    simp [orI, hx]
theorem orI_at {l : List Int} {i : Nat} (h : ∀ x ∈ l.take i, x = 0) (hi : i < l.length) (hx : l.getD i 0 ≠ 0) : orI l = l.getD i 0 := by
  rw [orI_zero l i h, List.drop_eq_getElem_cons hi]
  have : l.getD i 0 = l[i] := by rw [List.getD_eq_getElem?_getD, List.getElem?_eq_getElem hi]; rfl
  rw [this] at hx ⊢
  simp [orI, hx]
theorem orI_none {l : List Int} (h : ∀ x ∈ l, x = 0) : orI l = 0 := by
  rw [orI_zero l l.length (by simpa using h)]; simp [orI]
theorem take_zero {l : List Int} {i : Nat} (h : ∀ x ∈ l.take i, x = 0) (hi : i < l.length) (hx : l.getD i 0 = 0) : ∀ x ∈ l.take (i + 1), x = 0 := by
  intro x hm
  rw [List.take_succ_eq_append_getElem hi, List.mem_append] at hm
  rcases hm with hm | hm
  · exact h x hm
  · rw [List.mem_singleton] at hm
    rw [hm]
    rw [List.getD_eq_getElem?_getD, List.getElem?_eq_getElem hi] at hx
    exact hx
def st65 (l : List Int) (i : Int) : St := { tm := [(3, .t (ii 0)), (6, .t (ti l)), (7, .t (ii (l.length : Int))), (8, .t (ii i))], mm := [], nx := 0 }
def keep101 : Nat → List Nat := fun _ => []
noncomputable def sp101 : Nat → Option Spec := noneS
theorem hs101 : ∀ f s, sp101 f = some s → SpecOk Tryz.prog f s := none_ok
noncomputable def fu101 : List T → Nat := fun _ => 4398046511104
noncomputable def g101 : List T → Option Ret := fun ts => if ts.length = 1 then pureRun ty sp101 keep101 (fu101 ts) false Tryz.f101.results (Tryz.f101.body.getD .skip) ts else none
theorem s101 : SpecOk Tryz.prog 101 (viewSpec g101) := pure_ok mixed ty_ok hs101 Tryz.func101 rfl (by kernel_rfl) (enters_of Tryz.func101 (by kernel_rfl) rfl) keep101 fu101 false 1 (by decide)
set_option maxHeartbeats 4000000 in
theorem c101 {x : Int} : g101 [ii x] = some (.ts [.v (.bool false)]) := by
  have run : ∀ (fuel : Nat) (hf : 1099511627776 < fuel) (c : Code) (hc : Tryz.f101.body = some c), pureRun ty sp101 keep101 fuel false Tryz.f101.results c [ii x] = some (.ts [.v (.bool false)]) := by
   intro fuel hf c hc
   injection hc with hc
   subst hc
   refine pure_wc ?_
   refine wsr ?_
   refine xa rfl rfl rfl rfl ?_
   refine X_endS ?_
   try dsimp only [St.put, szA, List.length, Nat.reduceAdd]
   refine wsr ?_
   refine xm rfl rfl rfl rfl ?_
   refine xm rfl rfl rfl rfl ?_
   refine X_op' rfl (A_int rfl rfl rfl ⟨by decide, by decide⟩ rfl) ?_
   refine xa rfl rfl rfl rfl ?_
   refine X_endS ?_
   try dsimp only [St.put, szA, List.length, Nat.reduceAdd]
   refine W_ret ?_
   rw [show Ret.ts [T.v (.bool false)] = .ts [T.v (.bool (x != x))] by simp]
   exact end_R rfl (.t rfl .nil)
  exact (if_pos rfl).trans (run _ (by simp only [fu101]; omega) _ rfl)
def keep66 : Nat → List Nat := fun _ => []
noncomputable def sp66 : Nat → Option Spec := (more 101 (viewSpec g101) noneS)
theorem hs66 : ∀ f s, sp66 f = some s → SpecOk Tryz.prog f s := (more_ok s101 none_ok)
noncomputable def fu66 : List T → Nat := fun _ => 4398046511104
noncomputable def g66 : List T → Option Ret := fun ts => if ts.length = 2 then pureRun ty sp66 keep66 (fu66 ts) false Tryz.f66.results (Tryz.f66.body.getD .skip) ts else none
theorem s66 : SpecOk Tryz.prog 66 (viewSpec g66) := pure_ok mixed ty_ok hs66 Tryz.func66 rfl (by kernel_rfl) (enters_of Tryz.func66 (by kernel_rfl) rfl) keep66 fu66 false 2 (by decide)
set_option maxHeartbeats 4000000 in
theorem c66 {x y : Int} : g66 [ii x, ii y] = some (.ts [ii (cmpI x y)]) := by
  have run : ∀ (fuel : Nat) (hf : 1099511627776 < fuel) (c : Code) (hc : Tryz.f66.body = some c), pureRun ty sp66 keep66 fuel false Tryz.f66.results c [ii x, ii y] = some (.ts [ii (cmpI x y)]) := by
   intro fuel hf c hc
   injection hc with hc
   subst hc
   refine pure_wc ?_
   refine wsr ?_
   refine xa rfl rfl rfl rfl ?_
   refine X_endS ?_
   try dsimp only [St.put, szA, List.length, Nat.reduceAdd]
   refine wsr ?_
   refine xm rfl rfl rfl rfl ?_
   refine X_op' rfl (A_callV rfl rfl rfl rfl (.cons (V_t rfl) (K_t rfl) .nil) c101) ?_
   refine xa rfl rfl rfl rfl ?_
   refine X_endS ?_
   try dsimp only [St.put, szA, List.length, Nat.reduceAdd]
   refine wsr ?_
   refine xm rfl rfl rfl rfl ?_
   refine X_op' rfl (A_callV rfl rfl rfl rfl (.cons (V_t rfl) (K_t rfl) .nil) c101) ?_
   refine xa rfl rfl rfl rfl ?_
   refine X_endS ?_
   try dsimp only [St.put, szA, List.length, Nat.reduceAdd]
   refine W_seq ?_
   refine wsr ?_
   refine xm rfl rfl rfl rfl ?_
   refine X_endS ?_
   try dsimp only [St.put, szA, List.length, Nat.reduceAdd]
   refine W_condF rfl rfl ?_
   refine W_skip ?_
   refine Q_seq ?_
   refine W_seq ?_
   refine wsr ?_
   refine xm rfl rfl rfl rfl ?_
   refine X_endS ?_
   try dsimp only [St.put, szA, List.length, Nat.reduceAdd]
   refine W_condF rfl rfl ?_
   refine W_skip ?_
   refine Q_seq ?_
   refine W_seq ?_
   refine wsr ?_
   refine xm rfl rfl rfl rfl ?_
   refine xm rfl rfl rfl rfl ?_
   refine X_op' rfl (A_int rfl rfl rfl ⟨by decide, by decide⟩ rfl) ?_
   refine X_endS ?_
   try dsimp only [St.put, szA, List.length, Nat.reduceAdd]
   refine W_condB rfl (fun hb1 => ?_) (fun hb1 => ?_)
   ·have khb1 := hb1; (try simp only [kb] at khb1)
    refine wsr ?_
    refine xa rfl rfl rfl rfl ?_
    refine X_endS ?_
    try dsimp only [St.put, szA, List.length, Nat.reduceAdd]
    refine W_ret ?_
    refine Q_seqX ?_
    rw [show cmpI x y = -1 from if_pos khb1]
    exact end_R rfl (.t rfl .nil)
   ·have khb1 := hb1; (try simp only [kb] at khb1)
    refine W_skip ?_
    refine Q_seq ?_
    refine W_seq ?_
    refine wsr ?_
    refine xm rfl rfl rfl rfl ?_
    refine xm rfl rfl rfl rfl ?_
    refine X_op' rfl (A_int rfl rfl rfl ⟨by decide, by decide⟩ rfl) ?_
    refine X_endS ?_
    try dsimp only [St.put, szA, List.length, Nat.reduceAdd]
    refine W_condB rfl (fun hb2 => ?_) (fun hb2 => ?_)
    ·have khb2 := hb2; (try simp only [kb] at khb2)
     refine wsr ?_
     refine xa rfl rfl rfl rfl ?_
     refine X_endS ?_
     try dsimp only [St.put, szA, List.length, Nat.reduceAdd]
     refine W_ret ?_
     refine Q_seqX ?_
     rw [show cmpI x y = 1 by unfold cmpI; rw [if_neg (by omega), if_neg (by omega)]]
     exact end_R rfl (.t rfl .nil)
    ·have khb2 := hb2; (try simp only [kb] at khb2)
     refine W_skip ?_
     refine Q_seq ?_
     refine wsr ?_
     refine xa rfl rfl rfl rfl ?_
     refine X_endS ?_
     try dsimp only [St.put, szA, List.length, Nat.reduceAdd]
     refine W_ret ?_
     rw [show cmpI x y = 0 by unfold cmpI; rw [if_neg (by omega), if_pos (by omega)]]
     exact end_R rfl (.t rfl .nil)
  exact (if_pos rfl).trans (run _ (by simp only [fu66]; omega) _ rfl)
def keep65 : Nat → List Nat := fun _ => [3, 6, 7, 8]
noncomputable def sp65 : Nat → Option Spec := noneS
theorem hs65 : ∀ f s, sp65 f = some s → SpecOk Tryz.prog f s := none_ok
noncomputable def fu65 : List T → Nat := fun _ => 4398046511104
noncomputable def g65 : List T → Option Ret := fun ts => if ts.length = 1 then pureRun ty sp65 keep65 (fu65 ts) false Tryz.f65.results (Tryz.f65.body.getD .skip) ts else none
theorem s65 : SpecOk Tryz.prog 65 (viewSpec g65) := pure_ok mixed ty_ok hs65 Tryz.func65 rfl (by kernel_rfl) (enters_of Tryz.func65 (by kernel_rfl) rfl) keep65 fu65 false 1 (by decide)
set_option maxHeartbeats 4000000 in
theorem c65 {l : List Int} (hl : l.length ≤ 1099511627776) : g65 [ti l] = some (.ts [ii (orI l)]) := by
  have run : ∀ (fuel : Nat) (hf : 1099511627776 < fuel) (c : Code) (hc : Tryz.f65.body = some c), pureRun ty sp65 keep65 fuel false Tryz.f65.results c [ti l] = some (.ts [ii (orI l)]) := by
   intro fuel hf c hc
   injection hc with hc
   subst hc
   have e1 : (l.map ii).length = l.length := List.length_map _
   refine pure_wc ?_
   refine wsr ?_
   refine xa rfl rfl rfl rfl ?_
   refine X_endS ?_
   try dsimp only [St.put, szA, List.length, Nat.reduceAdd]
   refine wsr ?_
   refine xa rfl rfl rfl rfl ?_
   refine X_endS ?_
   try dsimp only [St.put, szA, List.length, Nat.reduceAdd]
   refine W_seq ?_
   refine wsr ?_
   refine xm rfl rfl rfl rfl ?_
   refine X_op' rfl (A_lenT rfl rfl rfl rfl rfl rfl rfl) ?_
   rw [e1]
   refine xm rfl rfl rfl rfl ?_
   refine X_endS ?_
   try dsimp only [St.put, szA, List.length, Nat.reduceAdd]
   refine W_blk ?_
   refine W_loop (fun n σ => ∃ i : Nat, i ≤ l.length ∧ (∀ x ∈ l.take i, x = 0) ∧ σ = st65 l i ∧ n = l.length - i) (l.length) ?_ ⟨0, Nat.zero_le _, by simp, by kernel_rfl, rfl⟩ (by omega)
   rintro n _ ⟨i, hi, ht, rfl, hn⟩
   refine wsr ?_
   refine X_op' rfl (A_int rfl rfl rfl ⟨by decide, by decide⟩ rfl) ?_
   refine X_endS ?_
   try dsimp only [St.put, szA, List.length, Nat.reduceAdd]
   refine W_seq ?_
   refine W_condB rfl (fun hb1 => ?_) (fun hb1 => ?_)
   ·have khb1 := hb1; (try simp only [kb] at khb1)
    refine W_skip ?_
    refine Q_seq ?_
    refine W_seq ?_
    refine W_blk ?_
    refine wsr ?_
    refine X_op' rfl (A_ixA (0 : Int) rfl rfl rfl rfl rfl rfl rfl (by omega) (by omega) rfl rfl) ?_
    refine X_op' rfl (A_ld rfl rfl rfl (ld_ip1 rfl rfl rfl)) ?_
    refine xa rfl rfl rfl rfl ?_
    refine X_endS ?_
    try dsimp only [St.put, szA, List.length, Nat.reduceAdd]
    refine wsr ?_
    refine xm rfl rfl rfl rfl ?_
    refine xm rfl rfl rfl rfl ?_
    refine X_op' rfl (A_int rfl rfl rfl ⟨by decide, by decide⟩ rfl) ?_
    refine X_endS ?_
    try dsimp only [St.put, szA, List.length, Nat.reduceAdd]
    refine W_condB rfl (fun hb2 => ?_) (fun hb2 => ?_)
    ·have khb2 := hb2; (try simp only [kb] at khb2)
     refine wsr ?_
     refine xm rfl rfl rfl rfl ?_
     refine xa rfl rfl rfl rfl ?_
     refine X_endS ?_
     try dsimp only [St.put, szA, List.length, Nat.reduceAdd]
     refine W_ret ?_
     refine Q_blkR ?_
     refine Q_seqX ?_
     refine Q_rndR ?_
     refine Q_blkR ?_
     refine Q_seqX ?_
     rw [orI_at (i := i) ht (by omega) khb2]
     exact end_R rfl (.t rfl .nil)
    ·have khb2 := hb2; (try simp only [kb] at khb2)
     refine W_skip ?_
     refine Q_blkN ?_
     refine Q_seq ?_
     refine W_reg ?_
     refine X_op' rfl (A_int rfl rfl rfl ⟨by decide, by decide⟩ (addI (by omega))) ?_
     refine xm rfl rfl rfl rfl ?_
     refine X_end ?_
     try dsimp only [St.put, szA, List.length, Nat.reduceAdd]
     exact ⟨l.length - (i + 1), by omega, i + 1, by omega, take_zero ht (by omega) khb2, Eq.trans (b := st65 l ((i : Int) + 1)) (by kernel_rfl) rfl, rfl⟩
   ·have khb1 := hb1; (try simp only [kb] at khb1)
    refine W_exit ?_
    refine Q_seqX ?_
    refine Q_rndX ?_
    refine Q_blkE ?_
    refine Q_seq ?_
    refine wsr ?_
    refine xm rfl rfl rfl rfl ?_
    refine xa rfl rfl rfl rfl ?_
    refine X_endS ?_
    try dsimp only [St.put, szA, List.length, Nat.reduceAdd]
    refine W_ret ?_
    rw [orI_none (l := l) (by rw [List.take_of_length_le (by omega)] at ht; exact ht)]
    exact end_R rfl (.t rfl .nil)
  exact (if_pos rfl).trans (run _ (by simp only [fu65]; omega) _ rfl)
def keep64 : Nat → List Nat := fun _ => []
noncomputable def sp64 : Nat → Option Spec := (more 45 (viewSpec g45) (more 66 (viewSpec g66) (more 65 (viewSpec g65) noneS)))
theorem hs64 : ∀ f s, sp64 f = some s → SpecOk Tryz.prog f s := (more_ok s45 (more_ok s66 (more_ok s65 none_ok)))
noncomputable def fu64 : List T → Nat := fun _ => 4398046511104
noncomputable def g64 : List T → Option Ret := fun ts => if ts.length = 3 then pureRun ty sp64 keep64 (fu64 ts) false Tryz.f64.results (Tryz.f64.body.getD .skip) ts else none
theorem s64 : SpecOk Tryz.prog 64 (viewSpec g64) := pure_ok mixed ty_ok hs64 Tryz.func64 rfl (by kernel_rfl) (enters_of Tryz.func64 (by kernel_rfl) rfl) keep64 fu64 false 3 (by decide)
set_option maxHeartbeats 4000000 in
theorem c64 {n : Nat} {xs : List Rr} {a b : Int} (w : ∀ x ∈ xs, x.ok n) (hn0 : 0 < n) (hn : n ≤ 1073741824) (a0 : 0 ≤ a) (a1 : a < xs.length) (b0 : 0 ≤ b) (b1 : b < xs.length) : g64 [ii a, ii b, .ip [tl xs]] = some (.ts [ii (orI [cmpQ (xs.getD b.toNat r0).v (xs.getD a.toNat r0).v, cmpI a b])]) := by
  have run : ∀ (fuel : Nat) (hf : 1099511627776 < fuel) (c : Code) (hc : Tryz.f64.body = some c), pureRun ty sp64 keep64 fuel false Tryz.f64.results c [ii a, ii b, .ip [tl xs]] = some (.ts [ii (orI [cmpQ (xs.getD b.toNat r0).v (xs.getD a.toNat r0).v, cmpI a b])]) := by
   intro fuel hf c hc
   injection hc with hc
   subst hc
   have el : (xs.map Rr.t).length = xs.length := List.length_map _
   refine pure_wc ?_
   refine wsr ?_
   refine xa rfl rfl rfl rfl ?_
   refine X_endS ?_
   try dsimp only [St.put, szA, List.length, Nat.reduceAdd]
   refine wsr ?_
   refine X_op' rfl (A_ld rfl rfl rfl (ld_ipT (ld_ip1 rfl rfl rfl))) ?_
   refine xm rfl rfl rfl rfl ?_
   refine X_op' rfl (A_ixA r0 rfl rfl rfl rfl rfl rfl rfl (by omega) (by omega) rfl rfl) ?_
   refine X_op' rfl (A_ld rfl rfl rfl (ld_ip3 rfl rfl rfl rfl rfl)) ?_
   refine X_op' rfl (A_ld rfl rfl rfl (ld_ipT (ld_ip1 rfl rfl rfl))) ?_
   refine xm rfl rfl rfl rfl ?_
   refine X_op' rfl (A_ixA r0 rfl rfl rfl rfl rfl rfl rfl (by omega) (by omega) rfl rfl) ?_
   refine X_op' rfl (A_ld rfl rfl rfl (ld_ip3 rfl rfl rfl rfl rfl)) ?_
   refine X_op' rfl (A_callV rfl rfl rfl rfl (.cons (V_t rfl) (K_t rfl) (.cons (V_t rfl) (K_t rfl) .nil)) (c45 (getD_ok w _) (getD_ok w _) hn0 hn)) ?_
   refine xm rfl rfl rfl rfl ?_
   refine xm rfl rfl rfl rfl ?_
   refine X_op' rfl (A_callV rfl rfl rfl rfl (.cons (V_t rfl) (K_t rfl) (.cons (V_t rfl) (K_t rfl) .nil)) c66) ?_
   refine X_op' rfl (A_bs rfl rfl rfl rfl rfl (.cons (V_t rfl) (K_t rfl) (.cons (V_t rfl) (K_t rfl) .nil)) rfl rfl (by decide)) ?_
   refine X_op' rfl (A_callV rfl rfl rfl rfl (.cons (V_m rfl rfl rfl rfl) (K_m rfl) .nil) (c65 (l := [cmpQ (xs.getD b.toNat r0).v (xs.getD a.toNat r0).v, cmpI a b]) (by simp))) ?_
   refine xa rfl rfl rfl rfl ?_
   refine X_endDS (by kernel_rfl) (by kernel_rfl) ?_
   try dsimp only [St.put, szA, List.length, Nat.reduceAdd]
   refine W_ret ?_
   exact end_R rfl (.t rfl .nil)
  exact (if_pos rfl).trans (run _ (by simp only [fu64]; omega) _ rfl)
def keep67 : Nat → List Nat := fun _ => []
noncomputable def sp67 : Nat → Option Spec := (more 44 (viewSpec g44) noneS)
theorem hs67 : ∀ f s, sp67 f = some s → SpecOk Tryz.prog f s := (more_ok s44 none_ok)
noncomputable def fu67 : List T → Nat := fun _ => 4398046511104
noncomputable def g67 : List T → Option Ret := fun ts => if ts.length = 1 then pureRun ty sp67 keep67 (fu67 ts) false Tryz.f67.results (Tryz.f67.body.getD .skip) ts else none
theorem s67 : SpecOk Tryz.prog 67 (viewSpec g67) := pure_ok mixed ty_ok hs67 Tryz.func67 rfl (by kernel_rfl) (enters_of Tryz.func67 (by kernel_rfl) rfl) keep67 fu67 false 1 (by decide)
set_option maxHeartbeats 4000000 in
theorem c67 {x : Int} (h0 : -9223372036854775808 ≤ x) (h1 : x < 9223372036854775808) : g67 [ii x] = some (.ts [tc (x : Rat)]) := by
  have run : ∀ (fuel : Nat) (hf : 1099511627776 < fuel) (c : Code) (hc : Tryz.f67.body = some c), pureRun ty sp67 keep67 fuel false Tryz.f67.results c [ii x] = some (.ts [tc (x : Rat)]) := by
   intro fuel hf c hc
   injection hc with hc
   subst hc
   refine pure_wc ?_
   refine wsr ?_
   refine X_op' rfl (A_alloc rfl rfl) ?_
   refine X_endS ?_
   try dsimp only [St.put, szA, List.length, Nat.reduceAdd]
   refine wsr ?_
   refine xm rfl rfl rfl rfl ?_
   refine X_op' rfl (A_callV rfl rfl rfl rfl (.cons (V_t rfl) (K_t rfl) .nil) (c44 h0 h1)) ?_
   refine X_op' rfl (A_stV rfl rfl rfl (V_t rfl) (K_t rfl) rfl rfl rfl rfl rfl rfl rfl) ?_
   refine X_endS ?_
   try dsimp only [St.put, szA, List.length, Nat.reduceAdd]
   refine W_ret ?_
   exact end_R rfl (.c rfl (ld_mp rfl rfl rfl rfl rfl rfl) .nil)
  exact (if_pos rfl).trans (run _ (by simp only [fu67]; omega) _ rfl)
theorem remW {a b : Int} (hb : 0 < b) (h1 : b < 9223372036854775808) : intBin .rem .u64 (IntKind.u64.wrap a) (IntKind.u64.wrap b) = some (.int .u64 (a % 18446744073709551616 % b)) := by
  rw [wUm, wU (by omega) (by omega)]
  exact remU (Int.emod_nonneg _ (by omega)) hb
def modI (a b : Int) : Int := a % 18446744073709551616 % b
theorem modI_lt {a b : Int} (hb : 0 < b) : 0 ≤ modI a b ∧ modI a b < b := ⟨Int.emod_nonneg _ (by omega), Int.emod_lt_of_pos _ hb⟩
def keep25 : Nat → List Nat := fun _ => []
noncomputable def sp25 : Nat → Option Spec := noneS
theorem hs25 : ∀ f s, sp25 f = some s → SpecOk Tryz.prog f s := none_ok
noncomputable def fu25 : List T → Nat := fun _ => 4398046511104
noncomputable def g25 : List T → Option Ret := fun ts => if ts.length = 2 then pureRun ty sp25 keep25 (fu25 ts) false Tryz.f25.results (Tryz.f25.body.getD .skip) ts else none
theorem s25 : SpecOk Tryz.prog 25 (viewSpec g25) := pure_ok mixed ty_ok hs25 Tryz.func25 rfl (by kernel_rfl) (enters_of Tryz.func25 (by kernel_rfl) rfl) keep25 fu25 false 2 (by decide)
set_option maxHeartbeats 4000000 in
theorem c25 {x n : Int} (hn : 0 < n) (h1 : n < 9223372036854775808) : g25 [ii x, ii n] = some (.ts [ii (modI x n)]) := by
  have run : ∀ (fuel : Nat) (hf : 1099511627776 < fuel) (c : Code) (hc : Tryz.f25.body = some c), pureRun ty sp25 keep25 fuel false Tryz.f25.results c [ii x, ii n] = some (.ts [ii (modI x n)]) := by
   intro fuel hf c hc
   injection hc with hc
   subst hc
   have hm := modI_lt (a := x) hn
   refine pure_wc ?_
   refine wsr ?_
   refine xa rfl rfl rfl rfl ?_
   refine X_endS ?_
   try dsimp only [St.put, szA, List.length, Nat.reduceAdd]
   refine wsr ?_
   refine xm rfl rfl rfl rfl ?_
   refine X_op' rfl (A_conv rfl rfl rfl rfl rfl rfl) ?_
   refine xm rfl rfl rfl rfl ?_
   refine X_op' rfl (A_conv rfl rfl rfl rfl rfl rfl) ?_
   refine X_op' rfl (A_int rfl rfl rfl ⟨by decide, by decide⟩ (remW hn h1)) ?_
   refine X_op' rfl (A_conv rfl rfl rfl rfl rfl rfl) ?_
   refine xa rfl rfl rfl rfl ?_
   refine X_endS ?_
   try dsimp only [St.put, szA, List.length, Nat.reduceAdd]
   refine W_ret ?_
   rw [show Ret.ts [ii (modI x n)] = .ts [ii (IntKind.i64.wrap (modI x n))] by rw [wI (by omega) (by omega)]]
   exact end_R rfl (.t rfl .nil)
  exact (if_pos rfl).trans (run _ (by simp only [fu25]; omega) _ rfl)
def st53 (a b : List Int) (i : Int) : St := { tm := [(0, .t (ti a)), (1, .t (ti b)), (5, .t (ii i))], mm := [], nx := 0 }
def smallR (x : Rr) : Prop := x.l.length ≤ 4 ∧ x.k.length ≤ 4
instance (x : Rr) : Decidable (smallR x) := inferInstanceAs (Decidable (_ ∧ _))
def rawP (xs : List Rr) : Prop := xs.length ≤ 30 ∧ ∀ x ∈ xs, smallR x
instance (xs : List Rr) : Decidable (rawP xs) := inferInstanceAs (Decidable (_ ∧ _))
theorem getD_mem {α : Type} {xs : List α} {i : Nat} {d : α} (h : i < xs.length) : xs.getD i d ∈ xs := by
  rw [List.getD_eq_getElem?_getD, List.getElem?_eq_getElem h]; exact List.getElem_mem h
theorem raw_step {xs : List Rr} {i : Nat} (h : ∀ x ∈ xs.take i, smallR x) (hi : i < xs.length) (hx : smallR (xs.getD i r0)) : ∀ x ∈ xs.take (i + 1), smallR x := by
  intro x hm
  rw [take_succ_r xs i hi, List.mem_append] at hm
  rcases hm with hm | hm
  · exact h x hm
  · rw [List.mem_singleton] at hm; rw [hm]; exact hx
def st9 (xs : List Rr) (i : Int) : St := { tm := [(0, .t (tl xs)), (3, .t (ii i))], mm := [], nx := 0 }
def keep9 : Nat → List Nat := fun _ => [0, 3]
noncomputable def sp9 : Nat → Option Spec := noneS
theorem hs9 : ∀ f s, sp9 f = some s → SpecOk Tryz.prog f s := none_ok
noncomputable def fu9 : List T → Nat := fun _ => 4398046511104
noncomputable def g9 : List T → Option Ret := fun ts => if ts.length = 1 then pureRun ty sp9 keep9 (fu9 ts) false Tryz.f9.results (Tryz.f9.body.getD .skip) ts else none
theorem s9 : SpecOk Tryz.prog 9 (viewSpec g9) := pure_ok mixed ty_ok hs9 Tryz.func9 rfl (by kernel_rfl) (enters_of Tryz.func9 (by kernel_rfl) rfl) keep9 fu9 false 1 (by decide)
set_option maxHeartbeats 4000000 in
theorem c9 {xs : List Rr} : g9 [tl xs] = some (.ts [.v (.bool (decide (rawP xs)))]) := by
  have run : ∀ (fuel : Nat) (hf : 1099511627776 < fuel) (c : Code) (hc : Tryz.f9.body = some c), pureRun ty sp9 keep9 fuel false Tryz.f9.results c [tl xs] = some (.ts [.v (.bool (decide (rawP xs)))]) := by
   intro fuel hf c hc
   injection hc with hc
   subst hc
   have el : (xs.map Rr.t).length = xs.length := List.length_map _
   refine pure_wc ?_
   refine wsr ?_
   refine xa rfl rfl rfl rfl ?_
   refine X_endS ?_
   try dsimp only [St.put, szA, List.length, Nat.reduceAdd]
   refine W_seq ?_
   refine wsr ?_
   refine xm rfl rfl rfl rfl ?_
   refine X_op' rfl (A_lenT rfl rfl rfl rfl rfl rfl rfl) ?_
   refine X_op' rfl (A_int rfl rfl rfl ⟨by decide, by decide⟩ rfl) ?_
   refine X_endS ?_
   try dsimp only [St.put, szA, List.length, Nat.reduceAdd]
   refine W_condB rfl (fun hb1 => ?_) (fun hb1 => ?_)
   ·have khb1 := hb1; (try simp only [kb] at khb1)
    refine wsr ?_
    refine xa rfl rfl rfl rfl ?_
    refine X_endS ?_
    try dsimp only [St.put, szA, List.length, Nat.reduceAdd]
    refine W_ret ?_
    refine Q_seqX ?_
    rw [show decide (rawP xs) = false from decide_eq_false (fun e => by have := e.1; omega)]
    exact end_R rfl (.t rfl .nil)
   ·have khb1 := hb1; (try simp only [kb] at khb1)
    refine W_skip ?_
    refine Q_seq ?_
    refine W_seq ?_
    refine wsr ?_
    refine xa rfl rfl rfl rfl ?_
    refine X_endS ?_
    try dsimp only [St.put, szA, List.length, Nat.reduceAdd]
    refine W_blk ?_
    refine W_loop (fun n σ => ∃ i : Nat, i ≤ xs.length ∧ xs.length ≤ 30 ∧ (∀ x ∈ xs.take i, smallR x) ∧ σ = st9 xs i ∧ n = xs.length - i) (xs.length) ?_ ⟨0, Nat.zero_le _, by omega, by simp, by kernel_rfl, rfl⟩ (by omega)
    rintro n _ ⟨i, hi, hx30, ht, rfl, hn⟩
    refine W_seq ?_
    refine wsr ?_
    refine xm rfl rfl rfl rfl ?_
    refine xm rfl rfl rfl rfl ?_
    refine X_op' rfl (A_lenT rfl rfl rfl rfl rfl rfl rfl) ?_
    refine X_op' rfl (A_int rfl rfl rfl ⟨by decide, by decide⟩ rfl) ?_
    refine X_endS ?_
    try dsimp only [St.put, szA, List.length, Nat.reduceAdd]
    refine W_condB rfl (fun hb2 => ?_) (fun hb2 => ?_)
    ·have khb2 := hb2; (try simp only [kb] at khb2)
     refine W_skip ?_
     refine Q_seq ?_
     refine W_seq ?_
     refine W_blk ?_
     refine wsr ?_
     refine xm rfl rfl rfl rfl ?_
     refine xm rfl rfl rfl rfl ?_
     refine X_op' rfl (A_ixA r0 rfl rfl rfl rfl rfl rfl rfl (by omega) (by omega) rfl rfl) ?_
     refine X_op' rfl (A_faP rfl rfl rfl rfl rfl) ?_
     refine X_op' rfl (A_faP rfl rfl rfl rfl rfl) ?_
     refine X_op' rfl (A_ld rfl rfl rfl (ld_ip1 rfl rfl rfl)) ?_
     refine X_op' rfl (A_lenT rfl rfl rfl rfl rfl rfl rfl) ?_
     refine X_op' rfl (A_int rfl rfl rfl ⟨by decide, by decide⟩ rfl) ?_
     refine xm rfl rfl rfl rfl ?_
     refine X_both (d := 21) rfl (fun hb3 => ?_) (fun hb3 => ?_)
     ·have khb3 := hb3; (try simp only [kb] at khb3)
      refine X_no1 rfl rfl rfl hb3 ?_
      refine X_no1 rfl rfl rfl hb3 ?_
      refine X_no1 rfl rfl rfl hb3 ?_
      refine X_no1 rfl rfl rfl hb3 ?_
      refine X_no1 rfl rfl rfl hb3 ?_
      refine X_no1 rfl rfl rfl hb3 ?_
      refine X_no1 rfl rfl rfl hb3 ?_
      refine X_op' rfl (A_pickT rfl rfl hb3 rfl) ?_
      refine X_endS ?_
      try dsimp only [St.put, szA, List.length, Nat.reduceAdd]
      refine W_condT rfl rfl ?_
      refine wsr ?_
      refine xa rfl rfl rfl rfl ?_
      refine X_endS ?_
      try dsimp only [St.put, szA, List.length, Nat.reduceAdd]
      refine W_ret ?_
      refine Q_blkR ?_
      refine Q_seqX ?_
      refine Q_rndR ?_
      refine Q_blkR ?_
      refine Q_seqX ?_
      rw [show decide (rawP xs) = false from decide_eq_false (fun e => by have := (e.2 _ (getD_mem (d := r0) (show i < xs.length by omega))).1; have e7 := cn_length (xs.getD i r0).l; rw [Int.toNat_natCast] at khb3; omega)]
      exact end_R rfl (.t rfl .nil)
     ·have khb3 := hb3; (try simp only [kb] at khb3)
      refine X_yes' rfl rfl rfl hb3 (A_mvT (.inl rfl) rfl rfl) ?_
      refine X_yes' rfl rfl rfl hb3 (A_mvT (.inl rfl) rfl rfl) ?_
      refine X_yes' rfl rfl rfl hb3 (A_ixA r0 rfl rfl rfl rfl rfl rfl rfl (by omega) (by omega) rfl rfl) ?_
      refine X_yes' rfl rfl rfl hb3 (A_faP rfl rfl rfl rfl rfl) ?_
      refine X_yes' rfl rfl rfl hb3 (A_ld rfl rfl rfl (ld_ip1 rfl rfl rfl)) ?_
      refine X_yes' rfl rfl rfl hb3 (A_lenT rfl rfl rfl rfl rfl rfl rfl) ?_
      refine X_yes' rfl rfl rfl hb3 (A_int rfl rfl rfl ⟨by decide, by decide⟩ rfl) ?_
      refine X_op' rfl (A_pickF rfl rfl hb3 rfl) ?_
      refine X_endS ?_
      try dsimp only [St.put, szA, List.length, Nat.reduceAdd]
      refine W_condB rfl (fun hb4 => ?_) (fun hb4 => ?_)
      ·have khb4 := hb4; (try simp only [kb] at khb4)
       refine wsr ?_
       refine xa rfl rfl rfl rfl ?_
       refine X_endS ?_
       try dsimp only [St.put, szA, List.length, Nat.reduceAdd]
       refine W_ret ?_
       refine Q_blkR ?_
       refine Q_seqX ?_
       refine Q_rndR ?_
       refine Q_blkR ?_
       refine Q_seqX ?_
       rw [show decide (rawP xs) = false from decide_eq_false (fun e => by have := (e.2 _ (getD_mem (d := r0) (show i < xs.length by omega))).2; have e7 := cn_length (xs.getD i r0).k; rw [Int.toNat_natCast] at khb4; omega)]
       exact end_R rfl (.t rfl .nil)
      ·have khb4 := hb4; (try simp only [kb] at khb4)
       refine W_skip ?_
       refine Q_blkN ?_
       refine Q_seq ?_
       refine W_reg ?_
       refine xm rfl rfl rfl rfl ?_
       refine X_op' rfl (A_int rfl rfl rfl ⟨by decide, by decide⟩ (addI (by omega))) ?_
       refine xa rfl rfl rfl rfl ?_
       refine X_end ?_
       try dsimp only [St.put, szA, List.length, Nat.reduceAdd]
       exact ⟨xs.length - (i + 1), by omega, i + 1, by omega, hx30, raw_step ht (by omega) ⟨by have e7 := cn_length (xs.getD i r0).l; rw [Int.toNat_natCast] at khb3; omega, by have e7 := cn_length (xs.getD i r0).k; rw [Int.toNat_natCast] at khb4; omega⟩, Eq.trans (b := st9 xs ((i : Int) + 1)) (by kernel_rfl) rfl, rfl⟩
    ·have khb2 := hb2; (try simp only [kb] at khb2)
     refine W_exit ?_
     refine Q_seqX ?_
     refine Q_rndX ?_
     refine Q_blkE ?_
     refine Q_seq ?_
     refine wsr ?_
     refine xa rfl rfl rfl rfl ?_
     refine X_endS ?_
     try dsimp only [St.put, szA, List.length, Nat.reduceAdd]
     refine W_ret ?_
     rw [show decide (rawP xs) = true from decide_eq_true ⟨by omega, by rw [List.take_of_length_le (by omega)] at ht; exact ht⟩]
     exact end_R rfl (.t rfl .nil)
  exact (if_pos rfl).trans (run _ (by simp only [fu9]; omega) _ rfl)
theorem endN_own {tt : Nat → Option TE} {σ : St} {res : Array ResultVar} {t sz : Nat} (hr : res.toList = [.tmp t]) (h : look σ.tm t = .nil sz) : EndQ tt true res (.ts [.sl sz []]) (some (.ret, σ)) := by
  have : res.toList.mapM (resA tt σ) = some [.nil sz] := by rw [hr]; simp only [List.mapM_cons, List.mapM_nil, resA, h]; rfl
  simp only [EndQ, retA, this, if_true]
  rfl
theorem A_apN1 {tt : Nat → Option TE} {sp : Nat → Option Spec} {nid : Nat} {o : Oper} {ev : Operand → A} {m : Nat → Option O} {c : Call} {s x : Operand} {t0 t1 : TypeId} {e ee : TE} {el sz sz0 : Nat} {l : List T} {n : Nat} (ho : o.op = .call c) (hc : c.callee = .builtin .append) (ha : c.args.toList = [s, x]) (ht : c.argTypes.toList = [t0, t1]) (h1 : tt t0 = some e) (h2 : e.elem = some el) (h3 : tt el = some ee) (hv : viewT m (ev x) = some (.sl sz l)) (htt : t0 = t1) (hs : sz = ee.sz) (hl : l.all (fun t => t.cells.all T.one) = true)
    (hx : fixNil tt t0 (ev s) = .nil sz0) (hn : l.length = n + 1) (b1 : n + 1 ≤ 9223372036854775807) (b2 : (n + 1) * ee.bytes ≤ 140737488355328) : aop tt sp nid o ev m = some (.ms nid ee.sz 0 (n + 1), [(nid, some ⟨el, ee.sz, l⟩)]) := by
  refine (A_apN ho hc ha ht h1 h2 h3 hv htt hs hl hx (by omega) (by rw [hn]; exact b2)).trans ?_
  rw [if_neg (by omega), hn]
def fitL (l : List Int) (n : Int) (k : Nat) : List Int := (List.range k).map fun j => if j < l.length then modI (l.getD j 0) n else 0
theorem fitL_succ (l : List Int) (n : Int) (k : Nat) : fitL l n (k + 1) = fitL l n k ++ [if k < l.length then modI (l.getD k 0) n else 0] := by
  simp [fitL, List.range_succ]
theorem fitL_len (l : List Int) (n : Int) (k : Nat) : (fitL l n k).length = k := by simp [fitL]
def st10a (xs : List Rr) (l : List Int) (n : Int) : St := { tm := [(0, .t (tl xs)), (1, .t (ti l)), (2, .t (ii n)), (7, .nil 1), (8, .t (ii 0))], mm := [], nx := 0 }
def st10 (xs : List Rr) (l : List Int) (n : Int) (R : List T) (i : Nat) : St := { tm := [(0, .t (tl xs)), (1, .t (ti l)), (2, .t (ii n)), (7, .ms 0 1 0 i), (8, .t (ii (i : Int)))], mm := [(0, some ⟨3, 1, R⟩)], nx := 1 }
def keep10 : Nat → List Nat := fun _ => [0, 1, 2, 7, 8]
noncomputable def sp10 : Nat → Option Spec := (more 25 (viewSpec g25) noneS)
theorem hs10 : ∀ f s, sp10 f = some s → SpecOk Tryz.prog f s := (more_ok s25 none_ok)
noncomputable def fu10 : List T → Nat := fun _ => 4398046511104
noncomputable def g10 : List T → Option Ret := fun ts => if ts.length = 3 then pureRun ty sp10 keep10 (fu10 ts) true Tryz.f10.results (Tryz.f10.body.getD .skip) ts else none
theorem s10 : SpecOk Tryz.prog 10 (viewSpec g10) := pure_ok mixed ty_ok hs10 Tryz.func10 rfl (by kernel_rfl) (enters_of Tryz.func10 (by kernel_rfl) rfl) keep10 fu10 true 3 (by decide)
set_option maxHeartbeats 4000000 in
theorem c10 {xs : List Rr} {l : List Int} {n : Int} (hx : xs.length ≤ 1099511627776) (hx0 : 0 < xs.length) (hl : l.length ≤ 1099511627776) (hn : 0 < n) (h1 : n < 9223372036854775808) : g10 [tl xs, ti l, ii n] = some (.own 3 1 ((fitL l n xs.length).map ii)) := by
  have run : ∀ (fuel : Nat) (hf : 1099511627776 < fuel) (c : Code) (hc : Tryz.f10.body = some c), pureRun ty sp10 keep10 fuel true Tryz.f10.results c [tl xs, ti l, ii n] = some (.own 3 1 ((fitL l n xs.length).map ii)) := by
   intro fuel hf c hc
   injection hc with hc
   subst hc
   have el : (xs.map Rr.t).length = xs.length := List.length_map _
   have e1 : (l.map ii).length = l.length := List.length_map _
   refine pure_wc ?_
   refine wsr ?_
   refine X_op' rfl (A_mv0 (.inr rfl) rfl rfl rfl rfl) ?_
   refine X_endS ?_
   try dsimp only [St.put, szA, List.length, Nat.reduceAdd]
   refine wsr ?_
   refine X_op' rfl (A_mv0 (.inr rfl) rfl rfl rfl rfl) ?_
   refine X_endS ?_
   try dsimp only [St.put, szA, List.length, Nat.reduceAdd]
   refine W_seq ?_
   refine wsr ?_
   refine xa rfl rfl rfl rfl ?_
   refine X_endS ?_
   try dsimp only [St.put, szA, List.length, Nat.reduceAdd]
   refine W_blk ?_
   refine W_loop (fun nn σ => ∃ i : Nat, i ≤ xs.length ∧ (i = 0 ∧ σ = st10a xs l n ∨ 0 < i ∧ ∃ R, R = (fitL l n i).map ii ∧ σ = st10 xs l n R i) ∧ nn = xs.length - i) (xs.length) ?_ ⟨0, Nat.zero_le _, .inl ⟨rfl, by kernel_rfl⟩, rfl⟩ (by omega)
   rintro nn _ ⟨i, hi, ⟨hi0, rfl⟩ | ⟨hi0, R, hR, rfl⟩, hnn⟩
   ·skip
    refine W_seq ?_
    refine wsr ?_
    refine xm rfl rfl rfl rfl ?_
    refine xm rfl rfl rfl rfl ?_
    refine X_op' rfl (A_lenT rfl rfl rfl rfl rfl rfl rfl) ?_
    refine X_op' rfl (A_int rfl rfl rfl ⟨by decide, by decide⟩ rfl) ?_
    refine X_endS ?_
    try dsimp only [St.put, szA, List.length, Nat.reduceAdd]
    refine W_condB rfl (fun hb1 => ?_) (fun hb1 => ?_)
    ·have khb1 := hb1; (try simp only [kb] at khb1)
     refine W_skip ?_
     refine Q_seq ?_
     refine W_seq ?_
     refine W_blk ?_
     refine wsr ?_
     refine xa rfl rfl rfl rfl ?_
     refine X_endS ?_
     try dsimp only [St.put, szA, List.length, Nat.reduceAdd]
     refine W_seq ?_
     refine wsr ?_
     refine xm rfl rfl rfl rfl ?_
     refine xm rfl rfl rfl rfl ?_
     refine X_op' rfl (A_lenT rfl rfl rfl rfl rfl rfl rfl) ?_
     refine X_op' rfl (A_int rfl rfl rfl ⟨by decide, by decide⟩ rfl) ?_
     refine X_endS ?_
     try dsimp only [St.put, szA, List.length, Nat.reduceAdd]
     refine W_condB rfl (fun hb2 => ?_) (fun hb2 => ?_)
     ·have khb2 := hb2; (try simp only [kb] at khb2)
      refine W_reg ?_
      refine xm rfl rfl rfl rfl ?_
      refine xm rfl rfl rfl rfl ?_
      refine X_op' rfl (A_ixA (0 : Int) rfl rfl rfl rfl rfl rfl rfl (by omega) (by omega) rfl rfl) ?_
      refine X_op' rfl (A_ld rfl rfl rfl (ld_ip1 rfl rfl rfl)) ?_
      refine xm rfl rfl rfl rfl ?_
      refine X_op' rfl (A_callV rfl rfl rfl rfl (.cons (V_t rfl) (K_t rfl) (.cons (V_t rfl) (K_t rfl) .nil)) (c25 (by omega) (by omega))) ?_
      refine xa rfl rfl rfl rfl ?_
      refine X_endS ?_
      try dsimp only [St.put, szA, List.length, Nat.reduceAdd]
      refine W_reg ?_
      refine X_op' rfl (A_mvN (.inl rfl) rfl) ?_
      refine xm rfl rfl rfl rfl ?_
      refine X_op' rfl (A_bs rfl rfl rfl rfl rfl (.cons (V_t rfl) (K_t rfl) .nil) rfl rfl (by decide)) ?_
      refine X_op' rfl (A_apN1 rfl rfl rfl rfl rfl rfl rfl (V_m rfl rfl rfl rfl) rfl rfl rfl rfl (n := 0) rfl (by decide) (by decide)) ?_
      refine X_op' rfl (A_mvM (.inr rfl) rfl) ?_
      refine X_end ?_
      try dsimp only [St.put, szA, List.length, Nat.reduceAdd]
      refine Q_blkN ?_
      refine Q_seq ?_
      refine W_reg ?_
      refine xm rfl rfl rfl rfl ?_
      refine X_op' rfl (A_int rfl rfl rfl ⟨by decide, by decide⟩ (addI (by omega))) ?_
      refine xa rfl rfl rfl rfl ?_
      refine X_end ?_
      try dsimp only [St.put, szA, List.length, Nat.reduceAdd]
      exact ⟨xs.length - 1, by omega, 1, by omega, .inr ⟨by omega, [ii (modI (l.getD 0 0) n)], by rw [fitL_succ, if_pos (by omega)]; rfl, Eq.trans (b := st10 xs l n [ii (modI (l.getD 0 0) n)] 1) (by kernel_rfl) rfl⟩, rfl⟩
     ·have khb2 := hb2; (try simp only [kb] at khb2)
      refine W_skip ?_
      refine Q_seq ?_
      refine W_reg ?_
      refine X_op' rfl (A_mvN (.inl rfl) rfl) ?_
      refine xm rfl rfl rfl rfl ?_
      refine X_op' rfl (A_bs rfl rfl rfl rfl rfl (.cons (V_t rfl) (K_t rfl) .nil) rfl rfl (by decide)) ?_
      refine X_op' rfl (A_apN1 rfl rfl rfl rfl rfl rfl rfl (V_m rfl rfl rfl rfl) rfl rfl rfl rfl (n := 0) rfl (by decide) (by decide)) ?_
      refine X_op' rfl (A_mvM (.inr rfl) rfl) ?_
      refine X_end ?_
      try dsimp only [St.put, szA, List.length, Nat.reduceAdd]
      refine Q_blkN ?_
      refine Q_seq ?_
      refine W_reg ?_
      refine xm rfl rfl rfl rfl ?_
      refine X_op' rfl (A_int rfl rfl rfl ⟨by decide, by decide⟩ (addI (by omega))) ?_
      refine xa rfl rfl rfl rfl ?_
      refine X_end ?_
      try dsimp only [St.put, szA, List.length, Nat.reduceAdd]
      exact ⟨xs.length - 1, by omega, 1, by omega, .inr ⟨by omega, [ii 0], by rw [fitL_succ, if_neg (by omega)]; rfl, Eq.trans (b := st10 xs l n [ii 0] 1) (by kernel_rfl) rfl⟩, rfl⟩
    ·have khb1 := hb1; (try simp only [kb] at khb1)
     refine W_exit ?_
     refine Q_seqX ?_
     refine Q_rndX ?_
     refine Q_blkE ?_
     refine Q_seq ?_
     refine wsr ?_
     refine X_op' rfl (A_mvN (.inl rfl) rfl) ?_
     refine X_op' rfl (A_mvN (.inr rfl) rfl) ?_
     refine X_endS ?_
     try dsimp only [St.put, szA, List.length, Nat.reduceAdd]
     refine W_ret ?_
     exfalso; omega
   ·have hRl : R.length = i := by rw [hR, List.length_map, fitL_len]
    refine W_seq ?_
    refine wsr ?_
    refine xm rfl rfl rfl rfl ?_
    refine xm rfl rfl rfl rfl ?_
    refine X_op' rfl (A_lenT rfl rfl rfl rfl rfl rfl rfl) ?_
    refine X_op' rfl (A_int rfl rfl rfl ⟨by decide, by decide⟩ rfl) ?_
    refine X_endS ?_
    try dsimp only [St.put, szA, List.length, Nat.reduceAdd]
    refine W_condB rfl (fun hb3 => ?_) (fun hb3 => ?_)
    ·have khb3 := hb3; (try simp only [kb] at khb3)
     refine W_skip ?_
     refine Q_seq ?_
     refine W_seq ?_
     refine W_blk ?_
     refine wsr ?_
     refine xa rfl rfl rfl rfl ?_
     refine X_endS ?_
     try dsimp only [St.put, szA, List.length, Nat.reduceAdd]
     refine W_seq ?_
     refine wsr ?_
     refine xm rfl rfl rfl rfl ?_
     refine xm rfl rfl rfl rfl ?_
     refine X_op' rfl (A_lenT rfl rfl rfl rfl rfl rfl rfl) ?_
     refine X_op' rfl (A_int rfl rfl rfl ⟨by decide, by decide⟩ rfl) ?_
     refine X_endS ?_
     try dsimp only [St.put, szA, List.length, Nat.reduceAdd]
     refine W_condB rfl (fun hb4 => ?_) (fun hb4 => ?_)
     ·have khb4 := hb4; (try simp only [kb] at khb4)
      refine W_reg ?_
      refine xm rfl rfl rfl rfl ?_
      refine xm rfl rfl rfl rfl ?_
      refine X_op' rfl (A_ixA (0 : Int) rfl rfl rfl rfl rfl rfl rfl (by omega) (by omega) rfl rfl) ?_
      refine X_op' rfl (A_ld rfl rfl rfl (ld_ip1 rfl rfl rfl)) ?_
      refine xm rfl rfl rfl rfl ?_
      refine X_op' rfl (A_callV rfl rfl rfl rfl (.cons (V_t rfl) (K_t rfl) (.cons (V_t rfl) (K_t rfl) .nil)) (c25 (by omega) (by omega))) ?_
      refine xa rfl rfl rfl rfl ?_
      refine X_endS ?_
      try dsimp only [St.put, szA, List.length, Nat.reduceAdd]
      refine W_reg ?_
      refine X_op' rfl (A_mvM (.inl rfl) rfl) ?_
      refine xm rfl rfl rfl rfl ?_
      refine X_op' rfl (A_bs rfl rfl rfl rfl rfl (.cons (V_t rfl) (K_t rfl) .nil) rfl rfl (by decide)) ?_
      refine X_op' rfl (A_apO rfl rfl rfl rfl rfl rfl rfl (V_m rfl rfl rfl rfl) rfl rfl rfl rfl rfl rfl rfl rfl hRl (by show i + 1 ≤ 9223372036854775807; omega) (by show (i + 1) * 8 ≤ 140737488355328; omega)) ?_
      refine X_op' rfl (A_mvM (.inr rfl) rfl) ?_
      refine X_end ?_
      try dsimp only [St.put, szA, List.length, Nat.reduceAdd]
      refine Q_blkN ?_
      refine Q_seq ?_
      refine W_reg ?_
      refine xm rfl rfl rfl rfl ?_
      refine X_op' rfl (A_int rfl rfl rfl ⟨by decide, by decide⟩ (addI (by omega))) ?_
      refine xa rfl rfl rfl rfl ?_
      refine X_end ?_
      try dsimp only [St.put, szA, List.length, Nat.reduceAdd]
      exact ⟨xs.length - (i + 1), by omega, i + 1, by omega, .inr ⟨by omega, (R ++ [ii (modI (l.getD i 0) n)]), by rw [fitL_succ, if_pos (by omega)]; rw [List.map_append, hR]; rfl, Eq.trans (b := st10 xs l n (R ++ [ii (modI (l.getD i 0) n)]) (i + 1)) (by kernel_rfl) rfl⟩, rfl⟩
     ·have khb4 := hb4; (try simp only [kb] at khb4)
      refine W_skip ?_
      refine Q_seq ?_
      refine W_reg ?_
      refine X_op' rfl (A_mvM (.inl rfl) rfl) ?_
      refine xm rfl rfl rfl rfl ?_
      refine X_op' rfl (A_bs rfl rfl rfl rfl rfl (.cons (V_t rfl) (K_t rfl) .nil) rfl rfl (by decide)) ?_
      refine X_op' rfl (A_apO rfl rfl rfl rfl rfl rfl rfl (V_m rfl rfl rfl rfl) rfl rfl rfl rfl rfl rfl rfl rfl hRl (by show i + 1 ≤ 9223372036854775807; omega) (by show (i + 1) * 8 ≤ 140737488355328; omega)) ?_
      refine X_op' rfl (A_mvM (.inr rfl) rfl) ?_
      refine X_end ?_
      try dsimp only [St.put, szA, List.length, Nat.reduceAdd]
      refine Q_blkN ?_
      refine Q_seq ?_
      refine W_reg ?_
      refine xm rfl rfl rfl rfl ?_
      refine X_op' rfl (A_int rfl rfl rfl ⟨by decide, by decide⟩ (addI (by omega))) ?_
      refine xa rfl rfl rfl rfl ?_
      refine X_end ?_
      try dsimp only [St.put, szA, List.length, Nat.reduceAdd]
      exact ⟨xs.length - (i + 1), by omega, i + 1, by omega, .inr ⟨by omega, (R ++ [ii 0]), by rw [fitL_succ, if_neg (by omega)]; rw [List.map_append, hR]; rfl, Eq.trans (b := st10 xs l n (R ++ [ii 0]) (i + 1)) (by kernel_rfl) rfl⟩, rfl⟩
    ·have khb3 := hb3; (try simp only [kb] at khb3)
     refine W_exit ?_
     refine Q_seqX ?_
     refine Q_rndX ?_
     refine Q_blkE ?_
     refine Q_seq ?_
     refine wsr ?_
     refine X_op' rfl (A_mvM (.inl rfl) rfl) ?_
     refine X_op' rfl (A_mvM (.inr rfl) rfl) ?_
     refine X_endS ?_
     try dsimp only [St.put, szA, List.length, Nat.reduceAdd]
     refine W_ret ?_
     have hi2 : i = xs.length := by omega
     rw [show (Ret.own 3 1 ((fitL l n xs.length).map ii)) = .own 3 1 R by rw [hR, hi2]]
     exact end_own rfl rfl rfl hRl
  exact (if_pos rfl).trans (run _ (by simp only [fu10]; omega) _ rfl)
set_option maxHeartbeats 4000000 in
theorem c10n {l : List Int} {n : Int} (hl : l.length ≤ 1099511627776) (hn : 0 < n) (h1 : n < 9223372036854775808) : g10 [tl [], ti l, ii n] = some (.ts [.sl 1 []]) := by
  have run : ∀ (fuel : Nat) (hf : 1099511627776 < fuel) (c : Code) (hc : Tryz.f10.body = some c), pureRun ty sp10 keep10 fuel true Tryz.f10.results c [tl [], ti l, ii n] = some (.ts [.sl 1 []]) := by
   intro fuel hf c hc
   injection hc with hc
   subst hc
   refine pure_wc ?_
   refine wsr ?_
   refine X_op' rfl (A_mv0 (.inr rfl) rfl rfl rfl rfl) ?_
   refine X_endS ?_
   try dsimp only [St.put, szA, List.length, Nat.reduceAdd]
   refine wsr ?_
   refine X_op' rfl (A_mv0 (.inr rfl) rfl rfl rfl rfl) ?_
   refine X_endS ?_
   try dsimp only [St.put, szA, List.length, Nat.reduceAdd]
   refine W_seq ?_
   refine wsr ?_
   refine xa rfl rfl rfl rfl ?_
   refine X_endS ?_
   try dsimp only [St.put, szA, List.length, Nat.reduceAdd]
   refine W_blk ?_
   refine W_loop (fun nn σ => σ = st10a [] l n) (0) ?_ (by kernel_rfl) (by omega)
   rintro nn _ rfl
   refine W_seq ?_
   refine wsr ?_
   refine xm rfl rfl rfl rfl ?_
   refine xm rfl rfl rfl rfl ?_
   refine X_op' rfl (A_lenT rfl rfl rfl rfl rfl rfl rfl) ?_
   refine X_op' rfl (A_int rfl rfl rfl ⟨by decide, by decide⟩ rfl) ?_
   refine X_endS ?_
   try dsimp only [St.put, szA, List.length, Nat.reduceAdd]
   refine W_condB rfl (fun hb1 => ?_) (fun hb1 => ?_)
   ·have khb1 := hb1; (try simp only [kb] at khb1)
    exact absurd khb1 (by decide)
   ·have khb1 := hb1; (try simp only [kb] at khb1)
    refine W_exit ?_
    refine Q_seqX ?_
    refine Q_rndX ?_
    refine Q_blkE ?_
    refine Q_seq ?_
    refine wsr ?_
    refine X_op' rfl (A_mvN (.inl rfl) rfl) ?_
    refine X_op' rfl (A_mvN (.inr rfl) rfl) ?_
    refine X_endS ?_
    try dsimp only [St.put, szA, List.length, Nat.reduceAdd]
    refine W_ret ?_
    exact endN_own rfl rfl
  exact (if_pos rfl).trans (run _ (by simp only [fu10]; omega) _ rfl)
end Go.Ev.S
/-
  DERIVED: THE SHELF's CONTRACTS AT THIS DUMP, IN PLAIN WORDS (tools/lay-plain.mjs out of 'TryzShelf.lean', which tools/lay-shelf.mjs wrote): THE SAME DECLARATIONS UNDER THE SAME NAMES: 'import', 'namespace', 'open', 'def', 'theorem' AND NOTHING ELSE: no command of the shelf's: FOR A HAND-IN. Each laying: the table of numbers ('.._ren') and one theorem, a field a fact of the dump's own or the kernel's comparison; each contract: ONE APPLICATION.
-/
namespace Go.Proofs
open Go.Shelf
def Tryz.sortInt_ren : Go.Shelf.Ren := ⟨fun | 6 => 63 | 15 => 88 | 14 => 100 | 28 => 122 | 29 => 123 | 20 => 138 | 21 => 139 | 22 => 140 | 23 => 141 | 24 => 142 | 25 => 143 | 26 => 144 | 27 => 145 | 46 => 153 | 47 => 154 | 48 => 155 | 49 => 156 | 50 => 157 | 57 => 165 | n => n, fun | 22 => 23 | 24 => 3 | 25 => 48 | 3 => 3 | 39 => 98 | 0 => 0 | 53 => 61 | 55 => 68 | 4 => 4 | 46 => 128 | 45 => 127 | 50 => 50 | 5 => 5 | 9 => 9 | 66 => 143 | 70 => 141 | 76 => 153 | 77 => 151 | n => n, fun | n => n⟩
theorem Tryz.sortInt : Go.Proofs.SlLaysF.n6 Tryz.prog Tryz.sortInt_ren := {
  mixed := by kernel_rfl
  f6 := ⟨Tryz.f63.name, by decide, Tryz.func63.trans (congrArg some (by kernel_rfl))⟩
  f14 := ⟨Tryz.f100.name, by decide, Tryz.func100.trans (congrArg some (by kernel_rfl))⟩
  f15 := Tryz.func88.trans (congrArg some (by kernel_rfl))
  f20 := ⟨Tryz.f138.name, by decide, Tryz.func138.trans (congrArg some (by kernel_rfl))⟩
  f21 := ⟨Tryz.f139.name, by decide, Tryz.func139.trans (congrArg some (by kernel_rfl))⟩
  f22 := ⟨Tryz.f140.name, by decide, Tryz.func140.trans (congrArg some (by kernel_rfl))⟩
  f23 := ⟨Tryz.f141.name, by decide, Tryz.func141.trans (congrArg some (by kernel_rfl))⟩
  f24 := ⟨Tryz.f142.name, by decide, Tryz.func142.trans (congrArg some (by kernel_rfl))⟩
  f25 := ⟨Tryz.f143.name, by decide, Tryz.func143.trans (congrArg some (by kernel_rfl))⟩
  f26 := ⟨Tryz.f144.name, by decide, Tryz.func144.trans (congrArg some (by kernel_rfl))⟩
  f27 := ⟨Tryz.f145.name, by decide, Tryz.func145.trans (congrArg some (by kernel_rfl))⟩
  f28 := Tryz.func122.trans (congrArg some (by kernel_rfl))
  f29 := Tryz.func123.trans (congrArg some (by kernel_rfl))
  f46 := ⟨Tryz.f153.name, by decide, Tryz.func153.trans (congrArg some (by kernel_rfl))⟩
  f47 := Tryz.func154.trans (congrArg some (by kernel_rfl))
  f48 := Tryz.func155.trans (congrArg some (by kernel_rfl))
  f49 := ⟨Tryz.f156.name, by decide, Tryz.func156.trans (congrArg some (by kernel_rfl))⟩
  f50 := ⟨Tryz.f157.name, by decide, Tryz.func157.trans (congrArg some (by kernel_rfl))⟩
  f57 := ⟨Tryz.f165.name, by decide, Tryz.func165.trans (congrArg some (by kernel_rfl))⟩
  t0 := Tryz.underlying0
  a0 := Tryz.isAgg0
  z0 := Tryz.sizeOf0
  v0 := Tryz.zeroValue0
  t3 := Tryz.underlying3
  a3 := Tryz.isAgg3
  z3 := Tryz.sizeOf3
  v3 := Tryz.zeroValue3
  t4 := Tryz.underlying4
  a4 := Tryz.isAgg4
  z4 := Tryz.sizeOf4
  v4 := Tryz.zeroValue4
  t5 := Tryz.underlying5
  a5 := Tryz.isAgg5
  z5 := Tryz.sizeOf5
  v5 := Tryz.zeroValue5
  t9 := Tryz.underlying9
  a9 := Tryz.isAgg9
  z9 := Tryz.sizeOf9
  v9 := Tryz.zeroValue9
  t22 := Tryz.underlying23
  a22 := Tryz.isAgg23
  z22 := Tryz.sizeOf23
  v22 := Tryz.zeroValue23
  a24 := Tryz.isAgg3
  z24 := Tryz.sizeOf3
  t25 := Tryz.underlying48
  a25 := Tryz.isAgg48
  z25 := Tryz.sizeOf48
  v25 := Tryz.zeroValue48
  t39 := Tryz.underlying98
  a39 := Tryz.isAgg98
  z39 := Tryz.sizeOf98
  v39 := Tryz.zeroValue98
  t45 := Tryz.underlying127
  a45 := Tryz.isAgg127
  z45 := Tryz.sizeOf127
  v45 := Tryz.zeroValue127
  t46 := Tryz.underlying128
  a46 := Tryz.isAgg128
  z46 := Tryz.sizeOf128
  v46 := Tryz.zeroValue128
  t50 := Tryz.underlying50
  a50 := Tryz.isAgg50
  z50 := Tryz.sizeOf50
  v50 := Tryz.zeroValue50
  t53 := Tryz.underlying61
  a53 := Tryz.isAgg61
  z53 := Tryz.sizeOf61
  v53 := Tryz.zeroValue61
  t55 := Tryz.underlying68
  a55 := Tryz.isAgg68
  z55 := Tryz.sizeOf68
  v55 := Tryz.zeroValue68
  t66 := Tryz.underlying143
  a66 := Tryz.isAgg143
  z66 := Tryz.sizeOf143
  v66 := Tryz.zeroValue143
  t70 := Tryz.underlying141
  a70 := Tryz.isAgg141
  z70 := Tryz.sizeOf141
  v70 := Tryz.zeroValue141
  t76 := Tryz.underlying153
  a76 := Tryz.isAgg153
  z76 := Tryz.sizeOf153
  v76 := Tryz.zeroValue153
  t77 := Tryz.underlying151
  a77 := Tryz.isAgg151
  z77 := Tryz.sizeOf151
  v77 := Tryz.zeroValue151 }
end Go.Proofs
/- slices.SortFunc as the screen calls it: its meaning. -/
set_option linter.unusedVariables false
namespace Go.Ev.S
open Go Go.Ev Go.Proofs Go.Sort Go.RowKit NumA

theorem lim_inj {a b : Int} (h : lim a = lim b) : a = b := by injection h with h; injection h
theorem cn_inj : ∀ {l k : List Int}, cn l = cn k → l = k
  | [], [], _ => rfl
  | [], _ :: _, h => by simp [cn] at h
  | _ :: _, [], h => by simp [cn] at h
  | a :: l, b :: k, h => by
    simp only [cn, List.map_cons, List.cons.injEq] at h
    rw [lim_inj h.1, cn_inj (l := l) (k := k) h.2]
theorem Rr_inj {x y : Rr} (h : x.t = y.t) : x = y := by
  obtain ⟨b, l, k⟩ := x
  obtain ⟨b', l', k'⟩ := y
  simp only [Rr.t, tq, tn, T.agg.injEq, List.cons.injEq, T.v.injEq, Value.bool.injEq, T.sl.injEq, true_and, and_true] at h
  obtain ⟨h1, h2, h3⟩ := h
  rw [h1, cn_inj h2, cn_inj h3]
theorem tl_inj : ∀ {xs ys : List Rr}, xs.map Rr.t = ys.map Rr.t → xs = ys
  | [], [], _ => rfl
  | [], _ :: _, h => by simp at h
  | _ :: _, [], h => by simp at h
  | a :: l, b :: k, h => by
    simp only [List.map_cons, List.cons.injEq] at h
    rw [Rr_inj h.1, tl_inj h.2]

/-- The order of greatest: the greater first, then the first. -/
def cfO (xs : List Rr) (a b : Nat) : Int := orI [cmpQ (xs.getD b r0).v (xs.getD a r0).v, cmpI (a : Int) (b : Int)]
def ltO (xs : List Rr) (a b : Nat) : Bool := decide (cfO xs a b < 0)
theorem ltO_iff (xs : List Rr) (a b : Nat) : ltO xs a b = true ↔ (xs.getD b r0).v < (xs.getD a r0).v ∨ (xs.getD b r0).v = (xs.getD a r0).v ∧ a < b := by
  unfold ltO cfO
  rw [decide_eq_true_eq]
  generalize (xs.getD b r0).v = q
  generalize (xs.getD a r0).v = p
  unfold cmpQ cmpI
  by_cases h1 : q < p
  · simp [orI, h1]
  · by_cases h2 : q = p
    · subst h2
      have : ¬ q < q := h1
      by_cases h3 : a < b
      · simp [orI, this, h3, Int.ofNat_lt.2 h3]
      · by_cases h4 : a = b
        · subst h4; simp [orI, this]
        · have h5 : ¬ (a : Int) < b := by omega
          have h6 : ¬ (a : Int) = b := by omega
          simp [orI, this, h3, h5, h6]
    · simp [orI, h1, h2]
theorem ltO_total (xs : List Rr) (a b : Nat) (h1 : ltO xs a b = false) (h2 : ltO xs b a = false) : a = b := by
  have g1 : ¬ ltO xs a b = true := by simp [h1]
  have g2 : ¬ ltO xs b a = true := by simp [h2]
  rw [ltO_iff] at g1 g2
  generalize (xs.getD b r0).v = q at g1 g2
  generalize (xs.getD a r0).v = p at g1 g2
  have e : q = p := Rat.le_antisymm (Rat.not_lt.1 fun h => g2 (.inl h)) (Rat.not_lt.1 fun h => g1 (.inl h))
  have g3 : ¬ a < b := fun h => g1 (.inr ⟨e, h⟩)
  have g4 : ¬ b < a := fun h => g2 (.inr ⟨e.symm, h⟩)
  omega
theorem ltO_irrefl (xs : List Rr) (a : Nat) : ltO xs a a = false := by
  rw [← Bool.not_eq_true, ltO_iff]
  rintro (h | ⟨_, h⟩)
  · exact absurd h (Rat.lt_irrefl)
  · omega
theorem ltO_trans (xs : List Rr) (a b c : Nat) (h1 : ltO xs a b = true) (h2 : ltO xs b c = true) : ltO xs a c = true := by
  rw [ltO_iff] at *
  generalize (xs.getD b r0).v = q at *
  generalize (xs.getD a r0).v = p at *
  generalize (xs.getD c r0).v = r at *
  rcases h1 with h1 | ⟨h1, h1'⟩ <;> rcases h2 with h2 | ⟨h2, h2'⟩
  · exact .inl (Rat.not_le.1 fun h => absurd (Rat.le_trans h (Rat.le_of_lt h2)) (Rat.not_le.2 h1))
  · exact .inl (h2 ▸ h1)
  · exact .inl (h1 ▸ h2)
  · exact .inr ⟨h2.trans h1, by omega⟩
theorem ltO_ntrans (xs : List Rr) (a b c : Nat) (h1 : ltO xs a b = false) (h2 : ltO xs b c = false) : ltO xs a c = false := by
  rw [← Bool.not_eq_true] at *
  intro h
  cases hab : ltO xs b a with
  | true => exact h2 (ltO_trans xs b a c hab h)
  | false =>
    have := ltO_total xs a b (by simpa using h1) hab
    subst this
    exact h2 h

/-- A world that is the old one, grown. -/
theorem grown_of {W w' : World} (ho : w'.os = W.os) (ht : w'.tape = W.tape) (hO : Out W w') (hs : W.heap.size ≤ w'.heap.size) (hf : ∀ b, b < W.heap.size → w'.heap[b]? = W.heap[b]?) : ∃ q os', w' = grow (W.drewN q) os' := by
  refine ⟨w'.drawn - W.drawn, w'.heap.extract W.heap.size w'.heap.size, ?_⟩
  have h1 : w'.heap = W.heap ++ w'.heap.extract W.heap.size w'.heap.size := by
    apply Array.ext_getElem?
    intro i
    by_cases hi : i < W.heap.size
    · rw [hf i hi, Array.getElem?_append_left hi]
    · rw [Array.getElem?_append_right (by omega), Array.getElem?_extract]
      split
      · congr 1; omega
      · rw [Array.getElem?_eq_none (by omega)]
  have h2 : w'.drawn = W.drawn + (w'.drawn - W.drawn) := by have := hO.2; omega
  obtain ⟨h, t, d, o, p⟩ := w'
  simp only at h1 h2 ho ht
  have h3 : p = W.output := hO.1
  unfold grow
  subst ho; subst ht; subst h3
  show World.mk h _ d _ _ = World.mk _ _ _ _ _
  congr 1
theorem sortWorld_other {α : Type} [Inhabited α] (enc : α → Value) (w : World) (blk off m : Nat) (dk : Array α) (os : Array Obj) (b : Nat) (hb : b < w.heap.size) (hne : b ≠ blk) : (sortWorld enc w blk off m dk os).heap[b]? = w.heap[b]? := by
  have h1 : (sortWorld enc w blk off m dk os).heap = (w.heap.modify blk (onCells (Go.Sort.putCells enc off dk))) ++ os := rfl
  rw [h1, Array.getElem?_append_left (by simpa using hb), Array.getElem?_modify, if_neg (Ne.symm hne)]
theorem sortWorld_size {α : Type} [Inhabited α] (enc : α → Value) (w : World) (blk off m : Nat) (dk : Array α) (os : Array Obj) : w.heap.size ≤ (sortWorld enc w blk off m dk os).heap.size := by
  have h1 : (sortWorld enc w blk off m dk os).heap = (w.heap.modify blk (onCells (Go.Sort.putCells enc off dk))) ++ os := rfl
  rw [h1]; simp
/-- cmp's contract. -/
theorem cmp64 {n N : Nat} {xs : List Rr} (w : ∀ x ∈ xs, x.ok n) (hn0 : 0 < n) (hn : n ≤ 1073741824) (hN : xs.length = N + 1) {W0 : World} {ok : Nat → Prop} {ptr : Value} (hp : RelT W0 ok (.ip [tl xs]) ptr) {blk : Nat} (hnb : ¬ ok blk) :
    CmpLays1 Tryz.prog 64 #[ptr] (fun i : Fin (N + 1) => Value.int .i64 (i.val : Int)) (fun a b => cfO xs a.val b.val) blk 0 (N + 1) W0 := by
  intro m os dk hs x y
  have hg : g64 [ii (x.val : Int), ii (y.val : Int), .ip [tl xs]] = some (.ts [ii (cfO xs x.val y.val)]) := by
    have h9 := c64 w hn0 hn (a := (x.val : Int)) (b := (y.val : Int)) (by omega) (by have := x.isLt; omega) (by omega) (by have := y.isLt; omega)
    rw [Int.toNat_natCast, Int.toNat_natCast] at h9
    exact h9
  have hspec : viewSpec g64 [.t (ii (x.val : Int)), .t (ii (y.val : Int)), .t (.ip [tl xs])] (fun _ => none) = some (.ts [ii (cfO xs x.val y.val)], []) := by
    show (match g64 [ii (x.val : Int), ii (y.val : Int), .ip [tl xs]] with
      | some r => some (r, if r.flat then [] else _)
      | none => none) = _
    rw [hg]; rfl
  have hargs : RelAL (sortWorld (fun i : Fin (N + 1) => Value.int .i64 (i.val : Int)) W0 blk 0 m dk os) ok (fun _ => 0) [.t (ii (x.val : Int)), .t (ii (y.val : Int)), .t (.ip [tl xs])] [.int .i64 (x.val : Int), .int .i64 (y.val : Int), ptr] := by
    have h3 := RelT.step (w' := sortWorld (fun i : Fin (N + 1) => Value.int .i64 (i.val : Int)) W0 blk 0 m dk os) (ok' := ok) (fun b hb hlt => ⟨sortWorld_other _ W0 blk 0 m dk os b hlt (fun e => hnb (e ▸ hb)), hb⟩) (sortWorld_size _ W0 blk 0 m dk os) _ _ hp
    exact ⟨_, _, rfl, rfl, _, _, rfl, rfl, _, _, rfl, h3, rfl⟩
  refine (s64.calls _ _ ok _ _ _ _ _ hspec hargs (by simp) (by simp)).mono ?_
  rintro e w' ⟨v, bn, rfl, h1, h2, h3, h4, h5, h6, h7, h8, h9, h10⟩
  have hv : v = .int .i64 (cfO xs x.val y.val) := by
    obtain ⟨us, rfl, u, us', rfl, rfl, rfl⟩ := h9
    rfl
  subst hv
  exact ⟨rfl, grown_of h1 h2 h3 h4 fun b hb => h8 b hb (by simp)⟩
/-- The indices in the order of greatest. -/
def ordQ (xs : List Rr) : List Nat := (List.range xs.length).mergeSort fun a b => !ltO xs b a
def ixs (l : List Nat) : List T := l.map fun i : Nat => ii (i : Int)
open Classical in
noncomputable def sortS : Spec := fun args m =>
  match args with
  | [.ms id 1 0 len, .t (.fn 64 [.ip [t]])] =>
    if h : ∃ (n : Nat) (xs : List Rr), 0 < n ∧ n ≤ 1073741824 ∧ (∀ x ∈ xs, x.ok n) ∧ 0 < xs.length ∧ xs.length ≤ 1000000 ∧ t = tl xs ∧ len = xs.length ∧ m id = some ⟨3, 1, ixs (List.range xs.length)⟩ then
      some (.ts [], [(id, some ⟨3, 1, ixs (ordQ h.choose_spec.choose)⟩)]) else none
  | _ => none
theorem sort_map (xs : List Rr) (N : Nat) (hN : xs.length = N + 1) :
    ((List.finRange (N + 1)).mergeSort fun x y => !(ltOf fun a b : Fin (N + 1) => cfO xs a.val b.val) y x).map Fin.val = ordQ xs := by
  rw [List.map_mergeSort (f := Fin.val) (r := fun x y => !(ltOf fun a b : Fin (N + 1) => cfO xs a.val b.val) y x) (s := fun a b => !ltO xs b a) (fun a _ b _ => rfl), show (List.finRange (N + 1)).map Fin.val = List.range (N + 1) from List.ext_getElem (by simp) (by simp), ordQ, hN]
theorem s63n : SpecOk Tryz.prog 63 sortS := by
  refine ⟨enters_of Tryz.func63 (by kernel_rfl) rfl, fun w ρ ok args vals m r u hs hargs hm hinj => ?_⟩
  unfold sortS at hs
  split at hs
  · rename_i id len t
    split at hs
    · rename_i h
      have hx := h.choose_spec.choose_spec
      generalize h.choose_spec.choose = xs at hx hs
      generalize h.choose = n at hx
      obtain ⟨x1, x2, x3, x4, x5, rfl, rfl, x8⟩ := hx
      simp only [Option.some.injEq, Prod.mk.injEq] at hs
      obtain ⟨rfl, rfl⟩ := hs
      simp only [RelAL, RelA, RelT, RelL, Nat.zero_mul, Nat.zero_add] at hargs
      obtain ⟨u1, us1, rfl, ⟨c, rfl, hc, hroom⟩, u2, us2, rfl, ⟨us, rfl, ptr, us', hus, hptr, rfl⟩, rfl⟩ := hargs
      have hus' : us = #[ptr] := by apply Array.ext'; simpa using hus
      subst hus'
      obtain ⟨hO, hnok⟩ := hm id _ x8
      obtain ⟨⟨cs, hb, hcs⟩, hp, hR⟩ := hO.room hroom
      obtain ⟨N, hN⟩ : ∃ N, xs.length = N + 1 := ⟨xs.length - 1, by omega⟩
      have hblk : ρ id < w.heap.size := hO.lt
      let d : Array (Fin (N + 1)) := (List.finRange (N + 1)).toArray
      have hds : d.size = N + 1 := by simp [d]
      have hH : Holds (fun i : Fin (N + 1) => Value.int .i64 (i.val : Int)) w (ρ id) 0 d := by
        intro j hj
        have hjN : j < N + 1 := by omega
        obtain ⟨u, g1, g2, g3⟩ := RelR.get _ _ _ j (ii (j : Int)) hR (by simp [ixs, hN, hjN])
        simp only [RelT] at g1
        subst g1
        have hdj : d[j]! = ⟨j, hjN⟩ := by
          rw [getElem!_pos d j hj]; simp [d]
        refine ⟨?_, ?_⟩
        · have := g3 0 (Value.int .i64 (j : Int)) rfl
          rw [hdj]; simpa using this
        · simp [World.frozen?, hb]
      have hcmp := cmp64 x3 x1 x2 hN (W0 := w) (ok := ok) (ptr := ptr) hptr hnok
      have hO9 : SWO (ltOf fun a b : Fin (N + 1) => cfO xs a.val b.val) := ⟨fun x => ltO_irrefl xs x.val, fun x y z => ltO_trans xs x.val y.val z.val, fun x y z => ltO_ntrans xs x.val y.val z.val⟩
      have h9 := Any.slices_SortFunc_total Tryz.sortInt (fun i : Fin (N + 1) => Value.int .i64 (i.val : Int)) (fun _ => rfl) (fun a b => cfO xs a.val b.val) hO9 64 #[ptr] (ρ id) 0 c d w s64.enters (by rw [hds]; exact hcmp) hH hblk (by omega) (fun x y h1 h2 => Fin.ext (ltO_total xs x.val y.val h1 h2))
      have hdx : d.size = xs.length := by omega
      have harr : #[Value.slice (some ⟨ρ id, 0, none⟩) d.size c, .func (.func 64) #[] #[ptr]] = [Value.slice (some ⟨ρ id, 0, none⟩) xs.length c, .func (.func 64) #[] #[ptr]].toArray := by rw [hdx]
      rw [harr] at h9
      refine Calls.mono h9 ?_
      rintro e w' ⟨rfl, q, os, hw'⟩
      generalize hR9 : (d.toList.mergeSort fun x y => !(ltOf fun a b : Fin (N + 1) => cfO xs a.val b.val) y x).toArray = R at hw'
      have hRs : R.size = d.size := by rw [← hR9]; simp
      have hRv : R.toList.map Fin.val = ordQ xs := by rw [← hR9, ← sort_map xs N hN]
      have hhold := holds_sortWorld (fun i : Fin (N + 1) => Value.int .i64 (i.val : Int)) w (ρ id) 0 q d R os hblk hH hRs
      have hoth := fun b hb hne => sortWorld_other (fun i : Fin (N + 1) => Value.int .i64 (i.val : Int)) w (ρ id) 0 q R os b hb hne
      have hsz := sortWorld_size (fun i : Fin (N + 1) => Value.int .i64 (i.val : Int)) w (ρ id) 0 q R os
      have hW : (sortWorld (fun i : Fin (N + 1) => Value.int .i64 (i.val : Int)) w (ρ id) 0 q R os).heap[ρ id]? = some (.cells (Go.Sort.putCells (fun i : Fin (N + 1) => Value.int .i64 (i.val : Int)) 0 R cs) 3 (0, 0)) := by
        have h1 : (sortWorld (fun i : Fin (N + 1) => Value.int .i64 (i.val : Int)) w (ρ id) 0 q R os).heap = (w.heap.modify (ρ id) (onCells (Go.Sort.putCells (fun i : Fin (N + 1) => Value.int .i64 (i.val : Int)) 0 R))) ++ os := rfl
        rw [h1, Array.getElem?_append_left (by simpa using hblk), Array.getElem?_modify, if_pos rfl, hb]
        rfl
      have hps : (Go.Sort.putCells (fun i : Fin (N + 1) => Value.int .i64 (i.val : Int)) 0 R cs).size = cs.size := by simp [Go.Sort.putCells]
      have hout : (sortWorld (fun i : Fin (N + 1) => Value.int .i64 (i.val : Int)) w (ρ id) 0 q R os).os = w.os ∧ (sortWorld (fun i : Fin (N + 1) => Value.int .i64 (i.val : Int)) w (ρ id) 0 q R os).tape = w.tape ∧ Out w (sortWorld (fun i : Fin (N + 1) => Value.int .i64 (i.val : Int)) w (ρ id) 0 q R os) := ⟨rfl, rfl, rfl, Nat.le_add_right _ _⟩
      rw [← hw'] at hhold hoth hsz hW hout
      refine ⟨.tuple #[], w'.heap.size, rfl, hout.1, hout.2.1, hout.2.2, hsz, hsz, fun b cs' E hb' => ?_, fun i hi => ?_, fun b hb' hne => hoth b hb' (fun e => hne id (by simp) e.symm), ?_, fun i o hi ho => ?_⟩
      · by_cases e : b = ρ id
        · subst e
          rw [hb] at hb'
          simp only [Option.some.injEq, Obj.cells.injEq] at hb'
          obtain ⟨rfl, rfl, _⟩ := hb'
          exact ⟨_, hW, hps⟩
        · exact ⟨cs', by rw [hoth b (Array.getElem?_eq_some_iff.1 hb').1 e]; exact hb', rfl⟩
      · simp only [List.map_cons, List.map_nil, List.mem_cons, List.not_mem_nil, or_false] at hi
        subst hi; rw [x8]; rfl
      · simp only [RelRet, RelL]
        exact ⟨[], rfl, rfl⟩
      · simp only [List.map_cons, List.map_nil, List.mem_cons, List.not_mem_nil, or_false] at hi
        subst hi
        simp only [lookM, if_true, Option.some.injEq] at ho
        subst ho
        have hol : (ordQ xs).length = N + 1 := by rw [← hRv]; simp [hRs, hds]
        refine .inl ⟨⟨_, hW, by rw [hps]; simpa [ixs, hol, hN] using hcs⟩, Nat.one_pos, RelR.of_get _ _ _ fun j t hj => ?_⟩
        have hjl : j < N + 1 := by
          have := (List.getElem?_eq_some_iff.1 hj).1
          simpa [ixs, hol] using this
        have hjR : j < R.size := by omega
        have ht : t = ii ((R[j]!).val : Int) := by
          simp only [ixs, List.getElem?_map, ← hRv] at hj
          rw [Array.getElem?_toList, Array.getElem?_eq_getElem hjR] at hj
          simp only [Option.map_some, Option.some.injEq] at hj
          rw [getElem!_pos R j hjR]; exact hj.symm
        subst ht
        refine ⟨.int .i64 ((R[j]!).val : Int), by simp only [RelT], rfl, fun k x hx => ?_⟩
        have hk0 : k = 0 := by
          have := (Array.getElem?_eq_some_iff.1 hx).1
          simp [Value.cells] at this; omega
        subst hk0
        have hx' : x = .int .i64 ((R[j]!).val : Int) := by simpa [Value.cells] using hx.symm
        subst hx'
        have := (hhold j hjR).1
        simpa using this
    · cases hs
  · cases hs
end Go.Ev.S
/- bits.Len64 and bits.Len at 0. -/
set_option linter.unusedVariables false
namespace Go.Ev.S
open Go Go.Ev Go.Proofs
set_option maxHeartbeats 4000000 in
set_option maxRecDepth 100000 in
theorem len64z (w : World) : Calls Tryz.prog 123 #[.int .u64 0] w fun e w' => e = .returned (.int .i64 0) ∧ w' = w := by
  go_enter Tryz.func123, Tryz.ntmps123
  go_wp2
  all_goals (go_ret; refine ⟨congrArg Ending.returned (congrArg (Value.int IntKind.i64) ?_), rfl⟩)
  all_goals decide +kernel
def g123 : List T → Option Ret
  | [.v (.int .u64 x)] => if x = 0 then some (.ts [.v (.int .i64 0)]) else none
  | _ => none
theorem s123 : SpecOk Tryz.prog 123 (viewSpec g123) := plain_ok (enters_of Tryz.func123 (by kernel_rfl) rfl) fun ts r h => by
  unfold g123 at h
  split at h
  · rename_i x
    split at h
    · rename_i hx
      simp only [Option.some.injEq] at h
      subst h; subst hx
      exact ⟨[.int .u64 0], _, rfl, rfl, fun w => len64z w⟩
    · cases h
  · cases h
end Go.Ev.S
/- The sort of no elements; the screen's greatest. -/
set_option linter.unusedVariables false
set_option linter.unusedSimpArgs false
set_option maxRecDepth 100000
namespace Go.Ev.S
open Go Go.Ev Go.Proofs NumA
theorem c123 : g123 [.v (.int .u64 0)] = some (.ts [.v (.int .i64 0)]) := rfl
def keep88 : Nat → List Nat := fun _ => []
noncomputable def sp88 : Nat → Option Spec := (more 123 (viewSpec g123) noneS)
theorem hs88 : ∀ f s, sp88 f = some s → SpecOk Tryz.prog f s := (more_ok s123 none_ok)
noncomputable def fu88 : List T → Nat := fun _ => 4398046511104
noncomputable def g88 : List T → Option Ret := fun ts => if ts.length = 1 then pureRun ty sp88 keep88 (fu88 ts) false Tryz.f88.results (Tryz.f88.body.getD .skip) ts else none
theorem s88 : SpecOk Tryz.prog 88 (viewSpec g88) := pure_ok mixed ty_ok hs88 Tryz.func88 rfl (by kernel_rfl) (enters_of Tryz.func88 (by kernel_rfl) rfl) keep88 fu88 false 1 (by decide)
set_option maxHeartbeats 4000000 in
theorem c88  : g88 [.v (.int .u64 0)] = some (.ts [ii 0]) := by
  have run : ∀ (fuel : Nat) (hf : 1099511627776 < fuel) (c : Code) (hc : Tryz.f88.body = some c), pureRun ty sp88 keep88 fuel false Tryz.f88.results c [.v (.int .u64 0)] = some (.ts [ii 0]) := by
   intro fuel hf c hc
   injection hc with hc
   subst hc
   refine pure_wc ?_
   refine wsr ?_
   refine xa rfl rfl rfl rfl ?_
   refine X_endS ?_
   try dsimp only [St.put, szA, List.length, Nat.reduceAdd]
   refine W_seq ?_
   refine W_condF rfl rfl ?_
   refine W_skip ?_
   refine Q_seq ?_
   refine wsr ?_
   refine xm rfl rfl rfl rfl ?_
   refine X_op' rfl (A_callV rfl rfl rfl rfl (.cons (V_t rfl) (K_t rfl) .nil) c123) ?_
   refine xa rfl rfl rfl rfl ?_
   refine X_endS ?_
   try dsimp only [St.put, szA, List.length, Nat.reduceAdd]
   refine W_ret ?_
   exact end_R rfl (.t rfl .nil)
  exact (if_pos rfl).trans (run _ (by simp only [fu88]; omega) _ rfl)
def keep138 : Nat → List Nat := fun _ => [0, 1, 2, 3, 8]
noncomputable def sp138 : Nat → Option Spec := noneS
theorem hs138 : ∀ f s, sp138 f = some s → SpecOk Tryz.prog f s := none_ok
noncomputable def fu138 : List T → Nat := fun _ => 4398046511104
noncomputable def g138 : List T → Option Ret := fun ts => if ts.length = 4 then pureRun ty sp138 keep138 (fu138 ts) false Tryz.f138.results (Tryz.f138.body.getD .skip) ts else none
theorem s138 : SpecOk Tryz.prog 138 (viewSpec g138) := pure_ok mixed ty_ok hs138 Tryz.func138 rfl (by kernel_rfl) (enters_of Tryz.func138 (by kernel_rfl) rfl) keep138 fu138 false 4 (by decide)
set_option maxHeartbeats 4000000 in
theorem c138 {f : Nat} {l : List T} : g138 [.sl 1 [], ii 0, ii 0, .fn f l] = some (.ts []) := by
  have run : ∀ (fuel : Nat) (hf : 1099511627776 < fuel) (c : Code) (hc : Tryz.f138.body = some c), pureRun ty sp138 keep138 fuel false Tryz.f138.results c [.sl 1 [], ii 0, ii 0, .fn f l] = some (.ts []) := by
   intro fuel hf c hc
   injection hc with hc
   subst hc
   refine pure_wc ?_
   refine wsr ?_
   refine xm rfl rfl rfl rfl ?_
   refine X_op' rfl (A_int rfl rfl rfl ⟨by decide, by decide⟩ (addI (by omega))) ?_
   refine xa rfl rfl rfl rfl ?_
   refine X_endS ?_
   try dsimp only [St.put, szA, List.length, Nat.reduceAdd]
   refine W_blk ?_
   refine W_loop (fun n σ => n = 0 ∧ σ = { tm := [(0, .t (.sl 1 [])), (1, .t (ii 0)), (2, .t (ii 0)), (3, .t (.fn f l)), (8, .t (ii 1))], mm := [], nx := 0 }) (0) ?_ ⟨rfl, by kernel_rfl⟩ (by omega)
   rintro n _ ⟨hn, rfl⟩
   refine W_seq ?_
   refine wsr ?_
   refine xm rfl rfl rfl rfl ?_
   refine xm rfl rfl rfl rfl ?_
   refine X_op' rfl (A_int rfl rfl rfl ⟨by decide, by decide⟩ rfl) ?_
   refine X_endS ?_
   try dsimp only [St.put, szA, List.length, Nat.reduceAdd]
   refine W_condB rfl (fun hb1 => ?_) (fun hb1 => ?_)
   ·have khb1 := hb1; (try simp only [kb] at khb1)
    exact absurd khb1 (by decide)
   ·have khb1 := hb1; (try simp only [kb] at khb1)
    refine W_exit ?_
    refine Q_seqX ?_
    refine Q_rndX ?_
    refine Q_blkE ?_
    exact rfl
  exact (if_pos rfl).trans (run _ (by simp only [fu138]; omega) _ rfl)
def keep100 : Nat → List Nat := fun _ => [0, 1, 2, 3, 4]
noncomputable def sp100 : Nat → Option Spec := (more 138 (viewSpec g138) noneS)
theorem hs100 : ∀ f s, sp100 f = some s → SpecOk Tryz.prog f s := (more_ok s138 none_ok)
noncomputable def fu100 : List T → Nat := fun _ => 4398046511104
noncomputable def g100 : List T → Option Ret := fun ts => if ts.length = 5 then pureRun ty sp100 keep100 (fu100 ts) false Tryz.f100.results (Tryz.f100.body.getD .skip) ts else none
theorem s100 : SpecOk Tryz.prog 100 (viewSpec g100) := pure_ok mixed ty_ok hs100 Tryz.func100 rfl (by kernel_rfl) (enters_of Tryz.func100 (by kernel_rfl) rfl) keep100 fu100 false 5 (by decide)
set_option maxHeartbeats 4000000 in
theorem c100 {f : Nat} {l : List T} : g100 [.sl 1 [], ii 0, ii 0, ii 0, .fn f l] = some (.ts []) := by
  have run : ∀ (fuel : Nat) (hf : 1099511627776 < fuel) (c : Code) (hc : Tryz.f100.body = some c), pureRun ty sp100 keep100 fuel false Tryz.f100.results c [.sl 1 [], ii 0, ii 0, ii 0, .fn f l] = some (.ts []) := by
   intro fuel hf c hc
   injection hc with hc
   subst hc
   refine pure_wc ?_
   refine wsr ?_
   refine xa rfl rfl rfl rfl ?_
   refine X_endS ?_
   try dsimp only [St.put, szA, List.length, Nat.reduceAdd]
   refine wsr ?_
   refine xa rfl rfl rfl rfl ?_
   refine X_endS ?_
   try dsimp only [St.put, szA, List.length, Nat.reduceAdd]
   refine W_blk ?_
   refine W_loop (fun n σ => n = 0 ∧ σ = { tm := [(0, .t (.sl 1 [])), (1, .t (ii 0)), (2, .t (ii 0)), (3, .t (ii 0)), (4, .t (.fn f l))], mm := [], nx := 0 }) (0) ?_ ⟨rfl, by kernel_rfl⟩ (by omega)
   rintro n _ ⟨hn, rfl⟩
   refine W_blk ?_
   refine wsr ?_
   refine xm rfl rfl rfl rfl ?_
   refine xm rfl rfl rfl rfl ?_
   refine X_op' rfl (A_int rfl rfl rfl ⟨by decide, by decide⟩ (subI (by omega))) ?_
   refine xa rfl rfl rfl rfl ?_
   refine X_endS ?_
   try dsimp only [St.put, szA, List.length, Nat.reduceAdd]
   refine W_seq ?_
   refine wsr ?_
   refine xm rfl rfl rfl rfl ?_
   refine X_op' rfl (A_int rfl rfl rfl ⟨by decide, by decide⟩ rfl) ?_
   refine X_endS ?_
   try dsimp only [St.put, szA, List.length, Nat.reduceAdd]
   refine W_condB rfl (fun hb1 => ?_) (fun hb1 => ?_)
   ·have khb1 := hb1; (try simp only [kb] at khb1)
    refine wsr ?_
    refine xm rfl rfl rfl rfl ?_
    refine xm rfl rfl rfl rfl ?_
    refine xm rfl rfl rfl rfl ?_
    refine xm rfl rfl rfl rfl ?_
    refine X_op' rfl (A_callV rfl rfl rfl rfl (.cons (V_t rfl) (K_t rfl) (.cons (V_t rfl) (K_t rfl) (.cons (V_t rfl) (K_t rfl) (.cons (V_t rfl) (K_t rfl) .nil)))) c138) ?_
    refine X_endS ?_
    try dsimp only [St.put, szA, List.length, Nat.reduceAdd]
    refine W_ret ?_
    refine Q_seqX ?_
    refine Q_blkR ?_
    refine Q_rndR ?_
    refine Q_blkR ?_
    exact rfl
   ·have khb1 := hb1; (try simp only [kb] at khb1)
    exact absurd khb1 (by decide)
  exact (if_pos rfl).trans (run _ (by simp only [fu100]; omega) _ rfl)
def keep63 : Nat → List Nat := fun _ => []
noncomputable def sp63 : Nat → Option Spec := (more 88 (viewSpec g88) (more 100 (viewSpec g100) noneS))
theorem hs63 : ∀ f s, sp63 f = some s → SpecOk Tryz.prog f s := (more_ok s88 (more_ok s100 none_ok))
noncomputable def fu63 : List T → Nat := fun _ => 4398046511104
noncomputable def g63 : List T → Option Ret := fun ts => if ts.length = 2 then pureRun ty sp63 keep63 (fu63 ts) false Tryz.f63.results (Tryz.f63.body.getD .skip) ts else none
theorem s63 : SpecOk Tryz.prog 63 (viewSpec g63) := pure_ok mixed ty_ok hs63 Tryz.func63 rfl (by kernel_rfl) (enters_of Tryz.func63 (by kernel_rfl) rfl) keep63 fu63 false 2 (by decide)
set_option maxHeartbeats 4000000 in
theorem c63 {f : Nat} {l : List T} : g63 [.sl 1 [], .fn f l] = some (.ts []) := by
  have run : ∀ (fuel : Nat) (hf : 1099511627776 < fuel) (c : Code) (hc : Tryz.f63.body = some c), pureRun ty sp63 keep63 fuel false Tryz.f63.results c [.sl 1 [], .fn f l] = some (.ts []) := by
   intro fuel hf c hc
   injection hc with hc
   subst hc
   refine pure_wc ?_
   refine wsr ?_
   refine xm rfl rfl rfl rfl ?_
   refine X_op' rfl (A_lenT rfl rfl rfl rfl rfl rfl rfl) ?_
   refine xa rfl rfl rfl rfl ?_
   refine X_endS ?_
   try dsimp only [St.put, szA, List.length, Nat.reduceAdd]
   refine W_reg ?_
   refine xm rfl rfl rfl rfl ?_
   refine xm rfl rfl rfl rfl ?_
   refine xm rfl rfl rfl rfl ?_
   refine X_op' rfl (A_conv rfl rfl rfl rfl rfl rfl) ?_
   refine X_op' rfl (A_callV rfl rfl rfl rfl (.cons (V_t rfl) (K_t rfl) .nil) c88) ?_
   refine xm rfl rfl rfl rfl ?_
   refine X_op' rfl (A_callV rfl rfl rfl rfl (.cons (V_t rfl) (K_t rfl) (.cons (V_t rfl) (K_t rfl) (.cons (V_t rfl) (K_t rfl) (.cons (V_t rfl) (K_t rfl) (.cons (V_t rfl) (K_t rfl) .nil))))) c100) ?_
   refine X_end ?_
   try dsimp only [St.put, szA, List.length, Nat.reduceAdd]
   exact rfl
  exact (if_pos rfl).trans (run _ (by simp only [fu63]; omega) _ rfl)
/-- The sort, of any number of elements. -/
noncomputable def sortZ : Spec := fun args m => match sortS args m with | some r => some r | none => touchS (viewSpec g63) args m
theorem s63z : SpecOk Tryz.prog 63 sortZ := s63n.or s63.touch
theorem ordQ_nil : ordQ [] = [] := by simp [ordQ]
theorem ordQ_perm (xs : List Rr) : (ordQ xs).Perm (List.range xs.length) := List.mergeSort_perm ..
theorem sortZ_eq {n : Nat} {xs : List Rr} (w : ∀ x ∈ xs, x.ok n) (hn0 : 0 < n) (hn : n ≤ 1073741824) (hx : xs.length ≤ 1000000) {id : Nat} {m : Nat → Option O} (hm : m id = some ⟨3, 1, ixs (List.range xs.length)⟩) :
    sortZ [.ms id 1 0 xs.length, .t (.fn 64 [.ip [tl xs]])] m = some (.ts [], [(id, some ⟨3, 1, ixs (ordQ xs)⟩)]) := by
  unfold sortZ
  by_cases h0 : xs.length = 0
  · have hs : sortS [.ms id 1 0 xs.length, .t (.fn 64 [.ip [tl xs]])] m = none := by
      unfold sortS
      simp only
      rw [dif_neg]
      rintro ⟨n', ys, _, _, _, h1, _, h2, h3, _⟩
      omega
    rw [hs]
    have hx0 : xs = [] := List.eq_nil_of_length_eq_zero h0
    subst hx0
    have hv : viewT m (.ms id 1 0 0) = some (.sl 1 []) := by
      show (match m id with
        | some o => if o.sz = 1 ∧ 0 + 0 ≤ o.rows.length then some (T.sl 1 ((o.rows.drop 0).take 0)) else none
        | none => none) = _
      rw [hm]; rfl
    have hl : [A.ms id 1 0 0, .t (.fn 64 [.ip [tl []]])].mapM (viewT m) = some [.sl 1 [], .fn 64 [.ip [tl []]]] := by
      simp only [List.mapM_cons, List.mapM_nil, hv]; rfl
    have hg : viewSpec g63 [A.ms id 1 0 0, .t (.fn 64 [.ip [tl []]])] m = some (.ts [], []) := by
      unfold viewSpec
      rw [hl]
      simp only [c63]
      rfl
    show touchS (viewSpec g63) [A.ms id 1 0 0, .t (.fn 64 [.ip [tl []]])] m = _
    unfold touchS
    simp only [hg, hm, ordQ_nil]
    rfl
  · have hs : sortS [.ms id 1 0 xs.length, .t (.fn 64 [.ip [tl xs]])] m = some (.ts [], [(id, some ⟨3, 1, ixs (ordQ xs)⟩)]) := by
      unfold sortS
      simp only
      have hex : ∃ (n : Nat) (ys : List Rr), 0 < n ∧ n ≤ 1073741824 ∧ (∀ x ∈ ys, x.ok n) ∧ 0 < ys.length ∧ ys.length ≤ 1000000 ∧ tl xs = tl ys ∧ xs.length = ys.length ∧ m id = some ⟨3, 1, ixs (List.range ys.length)⟩ := ⟨n, xs, hn0, hn, w, by omega, hx, rfl, rfl, hm⟩
      rw [dif_pos hex]
      have h9 := hex.choose_spec.choose_spec.2.2.2.2.2.1
      generalize hex.choose_spec.choose = ys at h9
      have : xs.map Rr.t = ys.map Rr.t := by injection h9
      rw [tl_inj this]
    rw [hs]
end Go.Ev.S
/- The screen's greatest: its first part. -/
set_option linter.unusedVariables false
set_option linter.unusedSimpArgs false
set_option maxRecDepth 100000
namespace Go.Ev.S
open Go Go.Ev Go.Proofs NumA
theorem minI (a b : Int) : (if b < a then b else a) = min a b := by omega
theorem c67z : g67 [ii 0] = some (.ts [tc 0]) := c67 (x := 0) (by omega) (by omega)
def zT : T := tq false [] []
/-- A list whose elements the screen takes. -/
def Bd (l : List Int) : Prop := ∀ i, -1073741824 ≤ l.getD i 0 ∧ l.getD i 0 ≤ 1073741824
theorem Bd.lo {l : List Int} (h : Bd l) (i : Nat) : -9223372036854775808 ≤ l.getD i 0 := by have := h i; omega
theorem Bd.hi {l : List Int} (h : Bd l) (i : Nat) : l.getD i 0 < 9223372036854775808 := by have := h i; omega
theorem Bd.mid {l : List Int} (h : Bd l) (i : Nat) : -4294967296 < l.getD i 0 ∧ l.getD i 0 < 4294967296 := by have := h i; omega
theorem Bd.gap {l k : List Int} (h : Bd l) (h' : Bd k) (i : Nat) : -9223372036854775808 ≤ k.getD i 0 - l.getD i 0 ∧ k.getD i 0 - l.getD i 0 < 9223372036854775808 := by have := h i; have := h' i; omega
theorem fit_step {n s : Nat} {q a : Rat} {b : Int} (hq : Fit (1 + s * (n + 2)) q) (ha : Fit n a) (hb : -4294967296 < b ∧ b < 4294967296) : Fit (1 + (s + 1) * (n + 2)) (q + a * (b : Rat)) := by
  have h1 : Fit 1 ((b : Int) : Rat) := fit_int (by rw [P_one]; omega) (by omega)
  have h2 := fit_add hq (fit_mul ha h1)
  have e : 1 + s * (n + 2) + (n + 1) + 1 = 1 + (s + 1) * (n + 2) := by rw [Nat.add_mul]; omega
  rwa [e] at h2
theorem fit_lim {n s : Nat} {q : Rat} (hq : Fit (1 + s * (n + 2)) q) (hs : s ≤ 64) : Fit (1 + 64 * (n + 2)) q :=
  hq.le (by have := Nat.mul_le_mul_right (n + 2) hs; omega)
theorem tc_rv (q : Rat) : rv (decide (q.num < 0)) (en (q.num.natAbs : Int)) (en (q.den : Int)) = q := rv_en q
theorem mul61 {n : Nat} {x : Rr} {v : Int} (hx : x.ok n) (hn0 : 0 < n) (hn : n ≤ 1000000) (hv : -4294967296 < v ∧ v < 4294967296) : g61 [x.t, tc (v : Rat)] = some (.ts [tc (x.v * (v : Rat))]) := by
  have h1 : Fit 1 ((v : Int) : Rat) := fit_int (by rw [P_one]; omega) (by omega)
  have h := c61 (n := n + 1) (hx.le (by omega)) ((Rw.can h1).le (by omega)) (by omega) (by omega)
  rw [tc_rv] at h
  exact h
theorem add68 {M : Nat} {p q : Rat} (hp : Fit M p) (hq : Fit M q) (h0 : 0 < M) (hM : M ≤ 1073741824) : g68 [tc p, tc q] = some (.ts [tc (p + q)]) := by
  have h := c68 (Rw.can hp) (Rw.can hq) h0 hM
  rw [tc_rv, tc_rv] at h
  exact h
/-- The two calls that add one number's share. -/
theorem step68 {n s : Nat} {q : Rat} {x : Rr} {v : Int} (hq : Fit (1 + s * (n + 2)) q) (hs : s < 64) (hx : x.ok n) (hn0 : 0 < n) (hn : n ≤ 1000000) (hv : -4294967296 < v ∧ v < 4294967296) : g68 [tc q, tc (x.v * (v : Rat))] = some (.ts [tc (q + x.v * (v : Rat))]) := by
  have h1 : Fit 1 ((v : Int) : Rat) := fit_int (by rw [P_one]; omega) (by omega)
  have h2 := fit_mul (Rw.fit hx hn0) h1
  exact add68 (fit_lim hq (by omega)) (h2.le (by omega)) (by omega) (by omega)
def ordR (N i : Nat) : List Nat := List.range i ++ List.replicate (N - i) 0
theorem ordR_len (N i : Nat) (h : i ≤ N) : (ordR N i).length = N := by simp [ordR]; omega
theorem ordR_all (N : Nat) : ordR N N = List.range N := by simp [ordR]
theorem ordR_set (N i : Nat) (h : i < N) : (ordR N i).set i i = ordR N (i + 1) := by
  unfold ordR
  rw [List.set_append_right i i (by simp), List.length_range, Nat.sub_self, List.range_succ, List.append_assoc]
  congr 1
  rw [show N - i = (N - (i + 1)) + 1 by omega, List.replicate_succ]
  rfl
theorem sortZ_ord {ord : List Nat} {xs : List Rr} (h : ord = ordQ xs) {n : Nat} (w : ∀ x ∈ xs, x.ok n) (hn0 : 0 < n) (hn : n ≤ 1073741824) (hx : xs.length ≤ 1000000) {id : Nat} {m : Nat → Option O} (hm : m id = some ⟨3, 1, ixs (List.range xs.length)⟩) :
    sortZ [.ms id 1 0 xs.length, .t (.fn 64 [.ip [tl xs]])] m = some (.ts [], [(id, some ⟨3, 1, ixs ord⟩)]) := by
  subst h; exact sortZ_eq w hn0 hn hx hm
theorem drop_consD {α : Type} {l : List α} {k : Nat} (d : α) (h : k < l.length) : l.drop k = l.getD k d :: l.drop (k + 1) := by
  rw [List.drop_eq_getElem_cons h]
  congr 1
  rw [List.getD_eq_getElem?_getD, List.getElem?_eq_getElem h]; rfl
def mT (m : Mp) : List T := [.agg [.agg (ments m)], .v (.agg #[])]
/-- The program's second step and its end. -/
def gP2 (t : Nat → Rat) (lo hi isl : Nat → Int) (ord : List Nat) : Option (Mp × Rat) → Option Rat
  | none => none
  | some (m, q) => gE (gB t lo hi isl ord m q)
theorem gP_eq (t : Nat → Rat) (lo hi isl : Nat → Int) (n : Nat) (ord : List Nat) : gP t lo hi isl n ord = gP2 t lo hi isl ord (gA t lo hi isl n 0 [] 0) := by
  unfold gP gP2
  cases gA t lo hi isl n 0 [] 0 <;> rfl
def retO : Option Rat → Ret
  | none => .ts [zT, .v (.bool false)]
  | some q => .ts [tc q, .v (.bool true)]
def st35a (xs : List Rr) (lo hi is : List Int) (L : List Nat) (i : Int) : St := { tm := [(1, .t (ti lo)), (2, .t (ti hi)), (3, .t (ti is)), (4, .ip [tl xs]), (8, .mp 0 3 0 0), (9, .t (.v (.bool false))), (10, .ms 1 1 0 xs.length), (24, .t (ii (xs.length : Int))), (25, .t (ii i))], mm := [(0, some ⟨30, 3, [zT]⟩), (1, some ⟨3, 1, ixs L⟩)], nx := 2 }
def st35b (xs : List Rr) (lo hi is : List Int) (L : List Nat) (m : Mp) (q : Rat) (i : Int) : St := { tm := [(1, .t (ti lo)), (2, .t (ti hi)), (3, .t (ti is)), (4, .ip [tl xs]), (8, .mp 0 3 0 0), (9, .t (.v (.bool false))), (10, .ms 1 1 0 xs.length), (12, .mr 2), (13, .mp 3 3 0 0), (39, .t (ii ((xs.map Rr.t).length : Int))), (40, .t (ii i))], mm := [(0, some ⟨30, 3, [zT]⟩), (1, some ⟨3, 1, ixs L⟩), (2, some ⟨77, 0, mT m⟩), (3, some ⟨30, 3, [tc q]⟩)], nx := 4 }
def st35c (xs : List Rr) (lo hi is : List Int) (L : List Nat) (m : Mp) (q : Rat) (i : Int) : St := { tm := [(1, .t (ti lo)), (2, .t (ti hi)), (3, .t (ti is)), (4, .ip [tl xs]), (8, .mp 0 3 0 0), (9, .t (.v (.bool false))), (12, .mr 1), (13, .mp 2 3 0 0), (77, .ms 3 1 0 xs.length), (78, .t (ii (xs.length : Int))), (79, .t (ii i))], mm := [(0, some ⟨30, 3, [zT]⟩), (1, some ⟨77, 0, mT m⟩), (2, some ⟨30, 3, [tc q]⟩), (3, some ⟨3, 1, ixs L⟩)], nx := 4 }
def X35 (O : Option Rat) (σ : St) : Prop := ∃ (m : Mp) (q : Rat), (m.map (·.1)).Nodup ∧ gE (some (m, q)) = O ∧ look σ.tm 8 = .mp 0 3 0 0 ∧ look σ.tm 12 = .mr 1 ∧ look σ.tm 13 = .mp 2 3 0 0 ∧ lookM σ.mm 0 = some ⟨30, 3, [zT]⟩ ∧ lookM σ.mm 1 = some ⟨77, 0, mT m⟩ ∧ lookM σ.mm 2 = some ⟨30, 3, [tc q]⟩
def keep35 : Nat → List Nat := fun b => if b = 0 then [1, 2, 3, 4, 8, 9, 10, 24, 25] else if b = 2 then [1, 2, 3, 4, 8, 9, 10, 12, 13, 39, 40] else [1, 2, 3, 4, 8, 9, 12, 13, 77, 78, 79]
noncomputable def sp35 : Nat → Option Spec := (more 61 (viewSpec g61) (more 63 (sortZ) (more 67 (viewSpec g67) (more 68 (viewSpec g68) noneS))))
theorem hs35 : ∀ f s, sp35 f = some s → SpecOk Tryz.prog f s := (more_ok s61 (more_ok s63z (more_ok s67 (more_ok s68 none_ok))))
/-- What the arguments must be. -/
structure Ok35 (n : Nat) (xs : List Rr) (lo hi is : List Int) : Prop where
  w : ∀ x ∈ xs, x.ok n
  hn0 : 0 < n
  hn : n ≤ 1000000
  hN : xs.length ≤ 32
  l1 : lo.length = xs.length
  l2 : hi.length = xs.length
  l3 : is.length = xs.length
  b1 : Bd lo
  b2 : Bd hi
abbrev tF (xs : List Rr) (i : Nat) : Rat := (xs.getD i r0).v
abbrev iF (l : List Int) (i : Nat) : Int := l.getD i 0
set_option maxHeartbeats 8000000 in
theorem pre35 {n : Nat} {xs : List Rr} {lo hi is : List Int} (hok : Ok35 n xs lo hi is) {O : Option Rat} (hO : gP (tF xs) (iF lo) (iF hi) (iF is) xs.length (ordQ xs) = O) (fuel : Nat) (hf : 1099511627776 < fuel) (c : Code) (hc : Tryz.f35.body = some c) :
    WC ty sp35 0 keep35 fuel (cPre 8 c) 0 { tm := [tl xs, ti lo, ti hi, ti is].zipIdx.map fun p => (p.2, .t p.1), mm := [], nx := 0 } (CutQ ty Tryz.f35.results (retO O) (X35 O)) := by
  injection hc with hc
  subst hc
  obtain ⟨w, hn0, hn, hN, l1, l2, l3, b1, b2⟩ := hok
  have el : (xs.map Rr.t).length = xs.length := List.length_map _
  have e1 : (lo.map ii).length = lo.length := List.length_map _
  have e2 : (hi.map ii).length = hi.length := List.length_map _
  have e3 : (is.map ii).length = is.length := List.length_map _
  rw [gP_eq] at hO
  obtain ⟨ord, hord⟩ : ∃ ord, ord = ordQ xs := ⟨_, rfl⟩
  rw [← hord] at hO
  have hop : ord.Perm (List.range xs.length) := hord ▸ ordQ_perm xs
  refine wsr ?_
  refine X_op' rfl (A_boxI rfl rfl (V_t rfl) (K_t rfl) rfl rfl rfl rfl) ?_
  refine X_op' rfl (A_alloc rfl rfl) ?_
  refine xa rfl rfl rfl rfl ?_
  refine X_endS ?_
  try dsimp only [St.put, szA, List.length, Nat.reduceAdd]
  refine wsr ?_
  refine X_op' rfl (A_ld rfl rfl rfl (ld_ip1 rfl rfl rfl)) ?_
  refine X_op' rfl (A_lenT rfl rfl rfl rfl rfl rfl rfl) ?_
  refine X_op' rfl (A_make (j := xs.length) rfl rfl rfl rfl rfl rfl (by omega) (by first | omega | (simp only [intE, slE, boolE, integerE, rationalE]; omega)) (by omega)) ?_
  refine X_op' rfl (A_mvM (.inr rfl) rfl) ?_
  refine X_endS ?_
  try dsimp only [St.put, szA, List.length, Nat.reduceAdd]
  refine W_seq ?_
  refine wsr ?_
  refine X_op' rfl (A_mvM (.inl rfl) rfl) ?_
  refine X_op' rfl (A_lenM rfl rfl rfl rfl rfl rfl rfl) ?_
  refine xm rfl rfl rfl rfl ?_
  refine X_endS ?_
  try dsimp only [St.put, szA, List.length, Nat.reduceAdd]
  refine W_blk ?_
  refine W_loop (fun nn σ => ∃ (i : Nat) (L : List Nat), i ≤ xs.length ∧ L = ordR xs.length i ∧ σ = st35a xs lo hi is L i ∧ nn + i = xs.length) (xs.length) ?_ ⟨0, ordR xs.length 0, Nat.zero_le _, rfl, (by simp only [st35a, ixs, ordR, List.range_zero, List.nil_append, List.map_replicate]; rfl), rfl⟩ (by omega)
  rintro nn0 _ ⟨i0, L, hi0, hL, rfl, hnn0⟩
  have hLl : L.length = xs.length := by rw [hL, ordR_len _ _ hi0]
  refine wsr ?_
  refine X_op' rfl (A_int rfl rfl rfl ⟨by decide, by decide⟩ rfl) ?_
  refine X_endS ?_
  try dsimp only [St.put, szA, List.length, Nat.reduceAdd]
  refine W_seq ?_
  refine W_condB rfl (fun hb1 => ?_) (fun hb1 => ?_)
  ·have khb1 := hb1; (try simp only [kb] at khb1)
   refine W_skip ?_
   refine Q_seq ?_
   refine W_seq ?_
   refine W_blk ?_
   refine wsr ?_
   refine xm rfl rfl rfl rfl ?_
   refine xa rfl rfl rfl rfl ?_
   refine X_endS ?_
   try dsimp only [St.put, szA, List.length, Nat.reduceAdd]
   refine W_reg ?_
   refine X_op' rfl (A_mvM (.inl rfl) rfl) ?_
   refine xm rfl rfl rfl rfl ?_
   refine xm rfl rfl rfl rfl ?_
   refine X_op' rfl (A_ixO rfl rfl rfl rfl rfl rfl rfl (by omega) (by omega)) ?_
   refine X_op' rfl (A_stR (0 : Nat) rfl rfl rfl (V_t rfl) (K_t rfl) rfl rfl (by first | omega | (simp only [List.length_set]; omega)) rfl rfl rfl rfl rfl rfl) ?_
   refine X_end ?_
   try dsimp only [St.put, szA, List.length, Nat.reduceAdd]
   refine Q_blkN ?_
   refine Q_seq ?_
   refine W_reg ?_
   refine X_op' rfl (A_int rfl rfl rfl ⟨by decide, by decide⟩ (addI (by omega))) ?_
   refine xm rfl rfl rfl rfl ?_
   refine X_end ?_
   try dsimp only [St.put, szA, List.length, Nat.reduceAdd]
   exact ⟨nn0 - 1, by omega, i0 + 1, L.set (0 + ((i0 : Int)).toNat) i0, by omega, by rw [hL, show 0 + ((i0 : Int)).toNat = i0 by omega, ordR_set _ _ (by omega)], Eq.trans (b := st35a xs lo hi is (L.set (0 + ((i0 : Int)).toNat) i0) ((i0 : Int) + 1)) (by kernel_rfl) rfl, by omega⟩
  ·have khb1 := hb1; (try simp only [kb] at khb1)
   refine W_exit ?_
   refine Q_seqX ?_
   refine Q_rndX ?_
   refine Q_blkE ?_
   refine Q_seq ?_
   refine wsr ?_
   obtain rfl : i0 = xs.length := by omega
   obtain rfl : L = List.range xs.length := by rw [hL, ordR_all]
   clear hL hLl hnn0 hi0 hb1 khb1
   refine X_op' rfl (A_mvM (.inl rfl) rfl) ?_
   refine X_op' rfl (A_mkF rfl rfl rfl (.cons (V_ip rfl) (K_ip rfl) .nil)) ?_
   refine X_op' rfl (A_callM [.ms 1 1 0 xs.length, .t (.fn 64 [.ip [tl xs]])] rfl rfl rfl rfl (sortZ_ord hord w hn0 (by omega) (by omega) rfl)) ?_
   refine X_endS ?_
   try dsimp only [St.put, szA, List.length, Nat.reduceAdd]
   refine wsr ?_
   refine X_op' rfl (A_mkM rfl rfl rfl) ?_
   refine X_op' rfl (A_mvR (.inr rfl) rfl) ?_
   refine X_endS ?_
   try dsimp only [St.put, szA, List.length, Nat.reduceAdd]
   refine wsr ?_
   refine X_op' rfl (A_callV rfl rfl rfl rfl (.cons (V_t rfl) (K_t rfl) .nil) c67z) ?_
   refine X_op' rfl (A_alloc rfl rfl) ?_
   refine X_op' rfl (A_stV rfl rfl rfl (V_t rfl) (K_t rfl) rfl rfl rfl rfl rfl rfl rfl) ?_
   refine X_endS ?_
   try dsimp only [St.put, szA, List.length, Nat.reduceAdd]
   refine W_seq ?_
   refine wsr ?_
   refine X_op' rfl (A_ld rfl rfl rfl (ld_ip1 rfl rfl rfl)) ?_
   refine X_op' rfl (A_lenT rfl rfl rfl rfl rfl rfl rfl) ?_
   refine xm rfl rfl rfl rfl ?_
   refine X_endS ?_
   try dsimp only [St.put, szA, List.length, Nat.reduceAdd]
   refine W_blk ?_
   refine W_loop (fun nn σ => ∃ (i : Nat) (m : Mp) (q : Rat), i ≤ xs.length ∧ (m.map (·.1)).Nodup ∧ gP2 (tF xs) (iF lo) (iF hi) (iF is) ord (gA (tF xs) (iF lo) (iF hi) (iF is) (xs.length - i) i m q) = O ∧ (∀ z, -(i * 1073741824) ≤ Mp.get z m ∧ Mp.get z m ≤ i * 1073741824) ∧ Fit (1 + i * (n + 2)) q ∧ σ = st35b xs lo hi is ord m q i ∧ nn + i = xs.length) (xs.length) ?_ ⟨0, [], 0, Nat.zero_le _, List.nodup_nil, hO, (fun z => ⟨by simp [Mp.get], by simp [Mp.get]⟩), (fit_int (z := 0) (m := 1) (by rw [P_one]; decide) (by omega)).le (by omega), (by kernel_rfl), rfl⟩ (by omega)
   rintro nn _ ⟨i, m, q, hi9, hmd, hG, hm, hq, rfl, hnn⟩
   have ei : ((i : Int)).toNat = i := by omega
   refine wsr ?_
   refine X_op' rfl (A_int rfl rfl rfl ⟨by decide, by decide⟩ rfl) ?_
   refine X_endS ?_
   try dsimp only [St.put, szA, List.length, Nat.reduceAdd]
   refine W_seq ?_
   refine W_condB rfl (fun hb2 => ?_) (fun hb2 => ?_)
   ·have khb2 := hb2; (try simp only [kb] at khb2)
    refine W_skip ?_
    refine Q_seq ?_
    refine W_seq ?_
    refine W_blk ?_
    refine wsr ?_
    refine xm rfl rfl rfl rfl ?_
    refine xa rfl rfl rfl rfl ?_
    refine X_endS ?_
    try dsimp only [St.put, szA, List.length, Nat.reduceAdd]
    refine W_seq ?_
    refine wsr ?_
    refine xm rfl rfl rfl rfl ?_
    refine xm rfl rfl rfl rfl ?_
    refine X_op' rfl (A_ixA (0 : Int) rfl rfl rfl rfl rfl rfl rfl (by omega) (by omega) rfl rfl) ?_
    refine X_op' rfl (A_ld rfl rfl rfl (ld_ip1 rfl rfl rfl)) ?_
    refine xm rfl rfl rfl rfl ?_
    refine xm rfl rfl rfl rfl ?_
    refine X_op' rfl (A_ixA (0 : Int) rfl rfl rfl rfl rfl rfl rfl (by omega) (by omega) rfl rfl) ?_
    refine X_op' rfl (A_ld rfl rfl rfl (ld_ip1 rfl rfl rfl)) ?_
    refine X_op' rfl (A_int rfl rfl rfl ⟨by decide, by decide⟩ rfl) ?_
    refine X_endDS (by kernel_rfl) (by kernel_rfl) ?_
    try dsimp only [St.put, szA, List.length, Nat.reduceAdd]
    refine W_condB rfl (fun hb3 => ?_) (fun hb3 => ?_)
    ·have khb3 := hb3; (try simp only [kb] at khb3)
     refine wsr ?_
     refine X_op' rfl (A_build rfl rfl rfl .nil rfl rfl rfl) ?_
     refine X_op' rfl (A_stV rfl rfl rfl (V_t rfl) (K_t rfl) rfl rfl rfl rfl rfl rfl rfl) ?_
     refine xa rfl rfl rfl rfl ?_
     refine X_endS ?_
     try dsimp only [St.put, szA, List.length, Nat.reduceAdd]
     refine W_ret ?_
     refine Q_seqX ?_
     refine Q_blkR ?_
     refine Q_seqX ?_
     refine Q_rndR ?_
     refine Q_blkR ?_
     refine Q_seqX ?_
     have hG0 : O = none := by
       simp only [Int.toNat_natCast, Nat.zero_add] at *
       rw [show xs.length - i = (xs.length - (i + 1)) + 1 by omega] at hG
       simp only [gA, iF] at hG
       rw [if_pos (show hi.getD i 0 < lo.getD i 0 by omega)] at hG
       exact hG.symm
     subst hG0
     exact end_R rfl (.c rfl (ld_mp rfl rfl rfl rfl rfl rfl) (.t rfl .nil))
    ·have khb3 := hb3; (try simp only [kb] at khb3)
     refine W_skip ?_
     refine Q_seq ?_
     refine wsr ?_
     refine X_op' rfl (A_mvR (.inl rfl) rfl) ?_
     refine xm rfl rfl rfl rfl ?_
     refine xm rfl rfl rfl rfl ?_
     refine X_op' rfl (A_ixA (0 : Int) rfl rfl rfl rfl rfl rfl rfl (by omega) (by omega) rfl rfl) ?_
     refine X_op' rfl (A_ld rfl rfl rfl (ld_ip1 rfl rfl rfl)) ?_
     refine X_op' rfl (A_lkI rfl rfl rfl rfl rfl rfl rfl rfl) ?_
     refine xm rfl rfl rfl rfl ?_
     refine xm rfl rfl rfl rfl ?_
     refine X_op' rfl (A_ixA (0 : Int) rfl rfl rfl rfl rfl rfl rfl (by omega) (by omega) rfl rfl) ?_
     refine X_op' rfl (A_ld rfl rfl rfl (ld_ip1 rfl rfl rfl)) ?_
     refine X_op' rfl (A_int rfl rfl rfl ⟨by decide, by decide⟩ (subI (by have h1 := hm (is.getD ((i : Int)).toNat 0); have h2 := b1 ((i : Int)).toNat; omega))) ?_
     refine X_op' rfl (A_muI rfl rfl rfl rfl rfl rfl rfl) ?_
     refine X_endDS (by kernel_rfl) (by kernel_rfl) ?_
     try dsimp only [St.put, szA, List.length, Nat.reduceAdd]
     refine W_reg ?_
     refine X_op' rfl (A_ld rfl rfl rfl (ld_mp rfl rfl rfl rfl rfl rfl)) ?_
     refine X_op' rfl (A_ld rfl rfl rfl (ld_ip1 rfl rfl rfl)) ?_
     refine xm rfl rfl rfl rfl ?_
     refine X_op' rfl (A_ixA r0 rfl rfl rfl rfl rfl rfl rfl (by omega) (by omega) rfl rfl) ?_
     refine X_op' rfl (A_ld rfl rfl rfl (ld_ip3 rfl rfl rfl rfl rfl)) ?_
     refine xm rfl rfl rfl rfl ?_
     refine xm rfl rfl rfl rfl ?_
     refine X_op' rfl (A_ixA (0 : Int) rfl rfl rfl rfl rfl rfl rfl (by omega) (by omega) rfl rfl) ?_
     refine X_op' rfl (A_ld rfl rfl rfl (ld_ip1 rfl rfl rfl)) ?_
     refine X_op' rfl (A_callV rfl rfl rfl rfl (.cons (V_t rfl) (K_t rfl) .nil) (c67 (b1.lo _) (b1.hi _))) ?_
     refine X_op' rfl (A_callV rfl rfl rfl rfl (.cons (V_t rfl) (K_t rfl) (.cons (V_t rfl) (K_t rfl) .nil)) (mul61 (getD_ok w _) hn0 hn (b1.mid _))) ?_
     refine X_op' rfl (A_callV rfl rfl rfl rfl (.cons (V_t rfl) (K_t rfl) (.cons (V_t rfl) (K_t rfl) .nil)) (step68 hq (by omega) (getD_ok w _) hn0 hn (b1.mid _))) ?_
     refine X_op' rfl (A_stV rfl rfl rfl (V_t rfl) (K_t rfl) rfl rfl rfl rfl rfl rfl rfl) ?_
     refine X_endD (by kernel_rfl) (by kernel_rfl) ?_
     try dsimp only [St.put, szA, List.length, Nat.reduceAdd]
     refine Q_blkN ?_
     refine Q_seq ?_
     refine W_reg ?_
     refine X_op' rfl (A_int rfl rfl rfl ⟨by decide, by decide⟩ (addI (by omega))) ?_
     refine xm rfl rfl rfl rfl ?_
     refine X_end ?_
     try dsimp only [St.put, szA, List.length, Nat.reduceAdd]
     simp only [Int.toNat_natCast, Nat.zero_add] at *
     rw [show xs.length - i = (xs.length - (i + 1)) + 1 by omega] at hG
     simp only [gA, iF] at hG
     have hlt : ¬ hi.getD i 0 < lo.getD i 0 := by omega
     have hl1 := b1 i
     rw [if_neg hlt] at hG
     exact ⟨nn - 1, by omega, i + 1, Mp.set (is.getD i 0) (Mp.get (is.getD i 0) m - lo.getD i 0) m, q + tF xs i * ((lo.getD i 0 : Int) : Rat), by omega, (Mp.set_keys _ _ m hmd).1, hG, fun z => by rw [Mp.get_set]; have := hm z; have := hm (is.getD i 0); split <;> omega, fit_step hq (Rw.fit (getD_ok w _) hn0) (b1.mid _), Eq.trans (b := st35b xs lo hi is ord (Mp.set (is.getD i 0) (Mp.get (is.getD i 0) m - lo.getD i 0) m) (q + tF xs i * ((lo.getD i 0 : Int) : Rat)) ((i : Int) + 1)) (by kernel_rfl) rfl, by omega⟩
   ·have khb2 := hb2; (try simp only [kb] at khb2)
    refine W_exit ?_
    refine Q_seqX ?_
    refine Q_rndX ?_
    refine Q_blkE ?_
    refine Q_seq ?_
    refine W_seq ?_
    refine wsr ?_
    obtain rfl : i = xs.length := by omega
    clear hnn hb2 khb2 hi9 ei
    refine X_op' rfl (A_mvM (.inl rfl) rfl) ?_
    refine X_op' rfl (A_lenM rfl rfl rfl rfl rfl rfl rfl) ?_
    refine xm rfl rfl rfl rfl ?_
    refine X_endS ?_
    try dsimp only [St.put, szA, List.length, Nat.reduceAdd]
    refine W_blk ?_
    refine W_loop (fun nn σ => ∃ (k : Nat) (m : Mp) (q : Rat), k ≤ xs.length ∧ (m.map (·.1)).Nodup ∧ gE (gB (tF xs) (iF lo) (iF hi) (iF is) (ord.drop k) m q) = O ∧ (∀ z, -(xs.length * 1073741824 + k * 2147483648) ≤ Mp.get z m ∧ Mp.get z m ≤ xs.length * 1073741824 + k * 2147483648) ∧ Fit (1 + (xs.length + k) * (n + 2)) q ∧ σ = st35c xs lo hi is ord m q k ∧ nn + k = xs.length) (xs.length) ?_ ⟨0, m, q, Nat.zero_le _, hmd, (by rw [Nat.sub_self] at hG; exact hG), (fun z => by have := hm z; omega), hq, (by kernel_rfl), rfl⟩ (by omega)
    rintro nn _ ⟨k, m, q, hk9, hmd, hG, hm, hq, rfl, hnn⟩
    have hol : ord.length = xs.length := by rw [hop.length_eq, List.length_range]
    have ek : 0 + ((k : Int)).toNat = k := by omega
    have hJ : ord.getD (0 + ((k : Int)).toNat) 0 = ord.getD k 0 := by rw [ek]
    refine wsr ?_
    refine X_op' rfl (A_int rfl rfl rfl ⟨by decide, by decide⟩ rfl) ?_
    refine X_endS ?_
    try dsimp only [St.put, szA, List.length, Nat.reduceAdd]
    refine W_seq ?_
    refine W_condB rfl (fun hb4 => ?_) (fun hb4 => ?_)
    ·have khb4 := hb4; (try simp only [kb] at khb4)
     refine W_skip ?_
     refine Q_seq ?_
     refine W_seq ?_
     refine W_blk ?_
     refine wsr ?_
     have hj9 : ord.getD (0 + ((k : Int)).toNat) 0 < xs.length := by
       rw [hJ]; exact List.mem_range.1 (hop.mem_iff.1 (getD_mem (by omega)))
     refine X_op' rfl (A_ixO rfl rfl rfl rfl rfl rfl rfl (by omega) (by omega)) ?_
     refine X_op' rfl (A_ld rfl rfl rfl (ld_row (0 : Nat) rfl (by first | omega | (simp only [List.length_set]; omega)) rfl rfl rfl)) ?_
     refine xa rfl rfl rfl rfl ?_
     refine X_endS ?_
     try dsimp only [St.put, szA, List.length, Nat.reduceAdd]
     refine wsr ?_
     generalize ord.getD (0 + ((k : Int)).toNat) 0 = j at *
     refine X_op' rfl (A_mvR (.inl rfl) rfl) ?_
     refine xm rfl rfl rfl rfl ?_
     refine xm rfl rfl rfl rfl ?_
     refine X_op' rfl (A_ixA (0 : Int) rfl rfl rfl rfl rfl rfl rfl (by omega) (by omega) rfl rfl) ?_
     refine X_op' rfl (A_ld rfl rfl rfl (ld_ip1 rfl rfl rfl)) ?_
     refine X_op' rfl (A_lkI rfl rfl rfl rfl rfl rfl rfl rfl) ?_
     refine xm rfl rfl rfl rfl ?_
     refine xm rfl rfl rfl rfl ?_
     refine X_op' rfl (A_ixA (0 : Int) rfl rfl rfl rfl rfl rfl rfl (by omega) (by omega) rfl rfl) ?_
     refine X_op' rfl (A_ld rfl rfl rfl (ld_ip1 rfl rfl rfl)) ?_
     refine xm rfl rfl rfl rfl ?_
     refine xm rfl rfl rfl rfl ?_
     refine X_op' rfl (A_ixA (0 : Int) rfl rfl rfl rfl rfl rfl rfl (by omega) (by omega) rfl rfl) ?_
     refine X_op' rfl (A_ld rfl rfl rfl (ld_ip1 rfl rfl rfl)) ?_
     refine X_op' rfl (A_int rfl rfl rfl ⟨by decide, by decide⟩ (subI (b1.gap b2 _))) ?_
     refine X_op' rfl (A_min rfl rfl rfl rfl rfl (minI _ _)) ?_
     refine xa rfl rfl rfl rfl ?_
     refine X_endDS (by kernel_rfl) (by kernel_rfl) ?_
     try dsimp only [St.put, szA, List.length, Nat.reduceAdd]
     refine W_seq ?_
     refine wsr ?_
     refine xm rfl rfl rfl rfl ?_
     refine X_op' rfl (A_int rfl rfl rfl ⟨by decide, by decide⟩ rfl) ?_
     refine X_endS ?_
     try dsimp only [St.put, szA, List.length, Nat.reduceAdd]
     refine W_condB rfl (fun hb5 => ?_) (fun hb5 => ?_)
     ·have khb5 := hb5; (try simp only [kb] at khb5)
      refine wsr ?_
      refine X_op' rfl (A_build rfl rfl rfl .nil rfl rfl rfl) ?_
      refine X_op' rfl (A_stV rfl rfl rfl (V_t rfl) (K_t rfl) rfl rfl rfl rfl rfl rfl rfl) ?_
      refine xa rfl rfl rfl rfl ?_
      refine X_endS ?_
      try dsimp only [St.put, szA, List.length, Nat.reduceAdd]
      refine W_ret ?_
      refine Q_seqX ?_
      refine Q_blkR ?_
      refine Q_seqX ?_
      refine Q_rndR ?_
      refine Q_blkR ?_
      refine Q_seqX ?_
      have hG0 : O = none := by
        simp only [Int.toNat_natCast, Nat.zero_add] at *
        rw [drop_consD 0 (show k < ord.length by omega), ← hJ] at hG
        simp only [gB] at hG
        have hgn : gN (iF lo) (iF hi) (iF is) j m = min (Mp.get (is.getD j 0) m) (hi.getD j 0 - lo.getD j 0) := rfl
        have h1 := hm (is.getD j 0)
        have h2 := b1 j
        have h3 := b2 j
        rw [if_pos (show gN (iF lo) (iF hi) (iF is) j m < 0 by omega)] at hG
        exact hG.symm
      subst hG0
      exact end_R rfl (.c rfl (ld_mp rfl rfl rfl rfl rfl rfl) (.t rfl .nil))
     ·have khb5 := hb5; (try simp only [kb] at khb5)
      refine W_skip ?_
      refine Q_seq ?_
      refine wsr ?_
      have hd0 : 0 ≤ min (Mp.get (is.getD ((j : Int)).toNat 0) m) (hi.getD ((j : Int)).toNat 0 - lo.getD ((j : Int)).toNat 0) ∧ min (Mp.get (is.getD ((j : Int)).toNat 0) m) (hi.getD ((j : Int)).toNat 0 - lo.getD ((j : Int)).toNat 0) ≤ 2147483648 := by have h1 := hm (is.getD ((j : Int)).toNat 0); have h2 := b1 ((j : Int)).toNat; have h3 := b2 ((j : Int)).toNat; omega
      refine X_op' rfl (A_mvR (.inl rfl) rfl) ?_
      refine xm rfl rfl rfl rfl ?_
      refine xm rfl rfl rfl rfl ?_
      refine X_op' rfl (A_ixA (0 : Int) rfl rfl rfl rfl rfl rfl rfl (by omega) (by omega) rfl rfl) ?_
      refine X_op' rfl (A_ld rfl rfl rfl (ld_ip1 rfl rfl rfl)) ?_
      refine X_op' rfl (A_lkI rfl rfl rfl rfl rfl rfl rfl rfl) ?_
      refine xm rfl rfl rfl rfl ?_
      refine X_op' rfl (A_int rfl rfl rfl ⟨by decide, by decide⟩ (subI (by have h1 := hm (is.getD ((j : Int)).toNat 0); omega))) ?_
      refine X_op' rfl (A_muI rfl rfl rfl rfl rfl rfl rfl) ?_
      refine X_endS ?_
      try dsimp only [St.put, szA, List.length, Nat.reduceAdd]
      refine W_reg ?_
      refine X_op' rfl (A_ld rfl rfl rfl (ld_mp rfl rfl rfl rfl rfl rfl)) ?_
      refine X_op' rfl (A_ld rfl rfl rfl (ld_ip1 rfl rfl rfl)) ?_
      refine xm rfl rfl rfl rfl ?_
      refine X_op' rfl (A_ixA r0 rfl rfl rfl rfl rfl rfl rfl (by omega) (by omega) rfl rfl) ?_
      refine X_op' rfl (A_ld rfl rfl rfl (ld_ip3 rfl rfl rfl rfl rfl)) ?_
      refine xm rfl rfl rfl rfl ?_
      refine X_op' rfl (A_callV rfl rfl rfl rfl (.cons (V_t rfl) (K_t rfl) .nil) (c67 (by omega) (by omega))) ?_
      refine X_op' rfl (A_callV rfl rfl rfl rfl (.cons (V_t rfl) (K_t rfl) (.cons (V_t rfl) (K_t rfl) .nil)) (mul61 (getD_ok w _) hn0 hn (by omega))) ?_
      refine X_op' rfl (A_callV rfl rfl rfl rfl (.cons (V_t rfl) (K_t rfl) (.cons (V_t rfl) (K_t rfl) .nil)) (step68 hq (by omega) (getD_ok w _) hn0 hn (by omega))) ?_
      refine X_op' rfl (A_stV rfl rfl rfl (V_t rfl) (K_t rfl) rfl rfl rfl rfl rfl rfl rfl) ?_
      refine X_endD (by kernel_rfl) (by kernel_rfl) ?_
      try dsimp only [St.put, szA, List.length, Nat.reduceAdd]
      refine Q_blkN ?_
      refine Q_seq ?_
      refine W_reg ?_
      refine X_op' rfl (A_int rfl rfl rfl ⟨by decide, by decide⟩ (addI (by omega))) ?_
      refine xm rfl rfl rfl rfl ?_
      refine X_end ?_
      try dsimp only [St.put, szA, List.length, Nat.reduceAdd]
      simp only [Int.toNat_natCast, Nat.zero_add] at *
      rw [drop_consD 0 (show k < ord.length by omega), ← hJ] at hG
      simp only [gB] at hG
      have hgn : gN (iF lo) (iF hi) (iF is) j m = min (Mp.get (is.getD j 0) m) (hi.getD j 0 - lo.getD j 0) := rfl
      have h1 := hm (is.getD j 0)
      have h2 := b1 j
      have h3 := b2 j
      have hge : ¬ gN (iF lo) (iF hi) (iF is) j m < 0 := by omega
      rw [if_neg hge] at hG
      have hgl : 0 ≤ gN (iF lo) (iF hi) (iF is) j m ∧ gN (iF lo) (iF hi) (iF is) j m ≤ 2147483648 := by omega
      exact ⟨nn - 1, by omega, k + 1, _, _, by omega, (Mp.set_keys _ _ m hmd).1, hG, fun z => by rw [Mp.get_set]; have := hm z; have := hm (iF is j); split <;> omega, Nat.add_right_comm xs.length k 1 ▸ fit_step hq (Rw.fit (getD_ok w _) hn0) (by omega), Eq.trans (b := st35c xs lo hi is ord (Mp.set (is.getD j 0) (Mp.get (is.getD j 0) m - gN (iF lo) (iF hi) (iF is) j m) m) (q + tF xs j * ((gN (iF lo) (iF hi) (iF is) j m : Int) : Rat)) ((k : Int) + 1)) (by kernel_rfl) rfl, by omega⟩
    ·have khb4 := hb4; (try simp only [kb] at khb4)
     refine W_exit ?_
     refine Q_seqX ?_
     refine Q_rndX ?_
     refine Q_blkE ?_
     refine Q_seq ?_
     refine W_exit ?_
     have hk9 : k = xs.length := by omega
     rw [hk9, List.drop_of_length_le (by omega)] at hG
     exact ⟨rfl, m, q, hmd, hG, rfl, rfl, rfl, rfl, rfl, rfl⟩
end Go.Ev.S
/- The screen's greatest: its second part (a range over a map), and the whole. -/
set_option linter.unusedVariables false
set_option linter.unusedSimpArgs false
set_option maxRecDepth 100000
namespace Go.Ev.S
open Go Go.Ev Go.Proofs NumA Go.ChangeMaps Go.RowKit
variable {w0 : World} {okA : Nat → Prop} {F : Pn} {ρ : Nat → Nat} {σ : St} {a : Act} {w : World}

def tailS (σ : St) : St := { tm := [(8, .mp 0 3 0 0), (13, .mp 2 3 0 0)], mm := σ.mm, nx := σ.nx }
/-- The loop over the map: what stays. -/
structure Fm35 (a : Act) (w : World) (a' : Act) (w' : World) : Prop where
  df : a'.defers = []
  sz : a'.tmps.size = 130
  it : a'.tmps.getD 121 undef = .pointer (some ⟨w.heap.size, 0, none⟩)
  t8 : a'.tmps.getD 8 undef = a.tmps.getD 8 undef
  t13 : a'.tmps.getD 13 undef = a.tmps.getD 13 undef
  os : w'.os = w.os
  tape : w'.tape = w.tape
  out : Out w w'
  size : w.heap.size ≤ w'.heap.size
  old : ∀ i, i < w.heap.size → w'.heap[i]? = w.heap[i]?
/-- The loop over the map, under way: what was seen is 0. -/
structure It35 (a : Act) (w : World) (b : Nat) (es : Array MapEntry) (a' : Act) (w' : World) : Prop where
  fm : Fm35 a w a' w'
  seen : ∃ seen c0, w'.heap[w.heap.size]? = some (.mapIter (some b) es.size seen c0) ∧ es.size ≤ c0 ∧ ∀ e ∈ es.toList, seen.contains e.born = true → e.val = .int .i64 0
theorem put_ne {a' : Act} (d t : Nat) (v : Value) (hd : d < a'.tmps.size) (h : d ≠ t) : (a'.put (some d) v).tmps.getD t undef = a'.tmps.getD t undef := by
  rw [put_getD _ _ _ _ (fun d' e => by simp only [Option.some.injEq] at e; rw [← e]; exact hd), if_neg (by simp [h])]
theorem Fm35.put {a' : Act} {w' : World} (h : Fm35 a w a' w') (d : Nat) (v : Value) (hd : d < 130) (h1 : d ≠ 8) (h2 : d ≠ 13) (h3 : d ≠ 121) : Fm35 a w (a'.put (some d) v) w' := by
  have hg : ∀ t, d ≠ t → (a'.put (some d) v).tmps.getD t undef = a'.tmps.getD t undef := fun t ht => put_ne d t v (by rw [h.sz]; exact hd) ht
  exact ⟨by rw [put_defers]; exact h.df, by rw [put_size]; exact h.sz, by rw [hg _ h3]; exact h.it, by rw [hg _ h1]; exact h.t8, by rw [hg _ h2]; exact h.t13, h.os, h.tape, h.out, h.size, h.old⟩
theorem put_at {a' : Act} (d : Nat) (v : Value) (hd : d < a'.tmps.size) : (a'.put (some d) v).tmps.getD d undef = v := by
  rw [put_getD _ _ _ _ (fun d' e => by simp only [Option.some.injEq] at e; rw [← e]; exact hd), if_pos rfl]
def leftN (b r : Nat) (w : World) : Nat :=
  match w.heap[b]?, w.heap[r]? with
  | some (.map es _), some (.mapIter _ _ seen _) => (leftOf es seen).size
  | _, _ => 0
theorem neq_run {P : Program} {a' : Act} {x : Operand} {z : Int} (hx : a'.eval x = .int .i64 z) (o : Oper) (ho : o.op = .binOp .neq 3 x (.const (.int .i64 0)) 3) (w' : World) : (execOp a'.eval o).run P w' = .ok (.value (.bool (z != 0))) w' := by
  have hb : binV .neq (.int .i64 z) (.int .i64 0) = some (.bool (z != 0)) := rfl
  have hc : a'.eval (.const (.int .i64 0)) = .int .i64 0 := rfl
  simp [execOp, ho, hx, hc, eqGuard_int, binV_run hb]

def RetQ (res : Array ResultVar) (R : Ret) : Option (Ex × St) → Prop
  | some (.ret, σ) => EndQ ty false res R (some (.ret, σ))
  | _ => False
theorem post35 {O : Option Rat} (hX : X35 O σ) (h : Rel w0 okA F 130 (fun id => σ.nx ≤ id) ρ σ a w) (hF : F.np = 0) :
    (cPost 8 (Tryz.f35.body.getD .skip)).wp Tryz.prog (fun e a' w' => (e = .normal ∨ e = .ret) ∧ ∃ σ', RelS w0 okA F 130 σ' a' w' ∧ retA ty false Tryz.f35.results σ' = some (retO O)) a w := by
  obtain ⟨m, q, hmd, hO, h8, h12, h13, m0, m1, m2⟩ := hX
  have e12 := h.tm 12
  rw [h12] at e12
  simp only [RelA] at e12
  have hob := h.mm 1 _ m1
  have hmap : ∃ es : Array MapEntry, w.heap[ρ 1]? = some (.map es es.size) ∧ (∀ (i : Nat) (e : MapEntry), es[i]? = some e → e.born = i) ∧ RelE w (okS w0 okA ρ σ.mm) (ments m) es.toList := RelO.map hob rfl
  obtain ⟨es, hb, hborn, hRE⟩ := hmap
  have hbl : ρ 1 < w.heap.size := (Array.getElem?_eq_some_iff.1 hb).1
  have hval : ∀ e ∈ es.toList, ∃ p ∈ m, e.val = .int .i64 p.2 := by
    intro e he
    obtain ⟨tv, g1, g2⟩ := RelE.mem _ _ e hRE he
    obtain ⟨p, hp, hpe⟩ := List.mem_map.1 g1
    simp only [ent, T.agg.injEq, List.cons.injEq, T.v.injEq, and_true] at hpe
    obtain ⟨_, rfl⟩ := hpe
    simp only [RelT] at g2
    exact ⟨p, hp, g2⟩
  have hent : ∀ p ∈ m, ∃ e ∈ es.toList, e.val = .int .i64 p.2 := by
    intro p hp
    obtain ⟨e, he, tv, g1, g2⟩ := RelE.mem' _ _ (ent p) hRE (List.mem_map_of_mem hp)
    simp only [ent, T.agg.injEq, List.cons.injEq, T.v.injEq, and_true] at g1
    obtain ⟨_, rfl⟩ := g1
    simp only [RelT] at g2
    exact ⟨e, he, g2⟩
  -- what comes behind the loop
  have back : ∀ (a' : Act) (w' : World), Fm35 a w a' w' → RelS w0 okA F 130 (tailS σ) a' w' := by
    intro a' w' hi
    refine ⟨ρ, h.move hi.os hi.tape hi.out hi.size hi.old rfl hi.df hi.sz fun t => ?_⟩
    by_cases e8 : t = 8
    · subst e8; exact .inr (.inl ⟨h8.symm, hi.t8⟩)
    · by_cases e13 : t = 13
      · subst e13; exact .inr (.inl ⟨h13.symm, hi.t13⟩)
      · refine .inl ?_
        show look [(8, A.mp 0 3 0 0), (13, A.mp 2 3 0 0)] t = .top
        simp only [look, if_neg (Ne.symm e8), if_neg (Ne.symm e13)]
  have sz := h.tsize
  obtain ⟨hu1, hu2⟩ := (ty_ok 77 _ rfl).mapOf 3 (.int .i64) 3 rfl
  refine wp_seq ?_
  refine wp_seq ?_
  apply wp_region_lit
  refine step_val rfl (w' := w) (v := .map (some (ρ 1))) (by simp [execOp, Act.eval, e12]) ?_
  have g120 : (a.put (some 120) (.map (some (ρ 1)))).tmps.getD 120 undef = .map (some (ρ 1)) := put_at 120 _ (by omega)
  refine step_val rfl (w' := w.alloc (.mapIter (some (ρ 1)) es.size #[] es.size)) (v := .pointer (some ⟨w.heap.size, 0, none⟩)) (by
    have hrun := run_range_map (P := Tryz.prog) w 77 3 3 (ρ 1) es es.size hu1 hb
    simp [execOp, Act.eval, g120, hrun, Result.andThen]) ?_
  refine wpList_nil ?_
  have start : It35 a w (ρ 1) es ((a.put (some 120) (.map (some (ρ 1)))).put (some 121) (.pointer (some ⟨w.heap.size, 0, none⟩))) (w.alloc (.mapIter (some (ρ 1)) es.size #[] es.size)) := by
    have hg : ∀ t, t ≠ 120 → t ≠ 121 → ((a.put (some 120) (.map (some (ρ 1)))).put (some 121) (.pointer (some ⟨w.heap.size, 0, none⟩))).tmps.getD t undef = a.tmps.getD t undef := fun t h1 h2 => by
      rw [put_ne 121 t _ (by rw [put_size, sz]; decide) (Ne.symm h2), put_ne 120 t _ (by rw [sz]; decide) (Ne.symm h1)]
    obtain ⟨al1, al2⟩ := MapKept.heap_alloc w (.mapIter (some (ρ 1)) es.size #[] es.size)
    exact ⟨⟨by rw [put_defers, put_defers]; exact h.defers, by rw [put_size, put_size]; exact sz, put_at 121 _ (by rw [put_size]; omega), hg 8 (by decide) (by decide), hg 13 (by decide) (by decide), rfl, rfl, Out.refl _, by show w.heap.size ≤ (w.heap.push _).size; simp, al2⟩, #[], es.size, al1, Nat.le_refl _, fun e _ hs => by simp at hs⟩
  show Code.wp _ (.block 6 _) _ _ _
  refine wp_block ?_
  refine wp_loop (It35 a w (ρ 1) es) (fun _ w' => leftN (ρ 1) w.heap.size w') start ?_
  intro a' w' hi0
  have hi := hi0.fm
  obtain ⟨seen, c0, s1, s2, s3⟩ := hi0.seen
  have hb' : w'.heap[ρ 1]? = some (.map es es.size) := (hi.old _ hbl).trans hb
  refine wp_seq ?_
  apply wp_region_lit
  have hev : a'.eval (.tmp 121) = .pointer (some ⟨w.heap.size, 0, none⟩) := hi.it
  rcases run_next_at (P := Tryz.prog) w' 0 w.heap.size (ρ 1) es.size c0 seen es es.size s1 hb' (born_lt es hborn) s2 with ⟨n0, hrun⟩ | ⟨e, he, w1, hw1, hrun⟩
  · refine step_val rfl (w' := w') (v := .tuple #[.bool false]) (by simp [execOp, hev, hrun, Result.andThen]) ?_
    have g122 : (a'.put (some 122) (.tuple #[.bool false])).eval (.tmp 122) = .tuple #[.bool false] := put_at 122 _ (by rw [hi.sz]; decide)
    refine step_val rfl (w' := w') (v := .bool false) (by simp [execOp, g122, Instr.extract]) ?_
    refine wpList_nil ?_
    show Code.wp _ (.seq _ _) _ _ _
    refine wp_seq ?_
    refine wp_cond_false (put_at 123 _ (by rw [put_size, hi.sz]; decide)) ?_
    refine wp_exit ?_
    have hi2 := (hi.put 122 (.tuple #[.bool false]) (by decide) (by decide) (by decide) (by decide)).put 123 (.bool false) (by decide) (by decide) (by decide) (by decide)
    have hz : (m.all fun e => e.2 == 0) = true := by
      rw [List.all_eq_true]
      intro p hp
      obtain ⟨e, he, hv⟩ := hent p hp
      have := s3 e he (all_seen es seen n0 e he)
      rw [hv] at this
      simpa using this
    simp only [gE, if_pos hz] at hO
    subst hO
    show Code.wp _ (.seq _ .ret) _ _ _
    refine wc_wp (sp := sp35) (keep := keep35) (fuel := 0) (bid := 0) (σ := tailS σ) (Q := EndQ ty false Tryz.f35.results (retO (some q))) mixed ty_ok hs35 ?_ (by kernel_rfl) (back _ _ hi2) (fun x => x) ?_
    · refine W_seq ?_
      refine W_reg ?_
      refine X_op' rfl (A_ld rfl rfl rfl (ld_mp m2 rfl rfl rfl rfl rfl)) ?_
      refine X_op' rfl (A_stV rfl rfl rfl (V_t rfl) (K_t rfl) m0 rfl rfl rfl rfl rfl rfl) ?_
      refine X_op' rfl (A_mvT (.inr rfl) rfl rfl) ?_
      refine X_endS ?_
      refine W_ret ?_
      exact end_R rfl (.c rfl (ld_mp rfl rfl rfl rfl rfl rfl) (.t rfl .nil))
    · intro e σ' a2 w2 hq hr
      cases e with
      | normal => exact ⟨.inl rfl, σ', hr, hq⟩
      | ret => exact ⟨.inr rfl, σ', hr, hq⟩
      | exit i => exact hq.elim
  · refine step_val rfl (w' := setBlock w1 w.heap.size (.mapIter (some (ρ 1)) es.size (seen.push e.born) es.size)) (v := .tuple #[.bool true, e.key, e.val]) (by simp [execOp, hev, hrun, Result.andThen]) ?_
    have g122 : (a'.put (some 122) (.tuple #[.bool true, e.key, e.val])).eval (.tmp 122) = .tuple #[.bool true, e.key, e.val] := put_at 122 _ (by rw [hi.sz]; decide)
    refine step_val rfl (w' := setBlock w1 w.heap.size (.mapIter (some (ρ 1)) es.size (seen.push e.born) es.size)) (v := .bool true) (by simp [execOp, g122, Instr.extract]) ?_
    refine wpList_nil ?_
    show Code.wp _ (.seq _ _) _ _ _
    refine wp_seq ?_
    refine wp_cond_true (put_at 123 _ (by rw [put_size, hi.sz]; decide)) ?_
    refine wp_skip ?_
    have hem := (mem_left he).1
    have hwo : w1.heap = w'.heap ∧ w1.os = w'.os ∧ w1.tape = w'.tape ∧ w1.output = w'.output ∧ w'.drawn ≤ w1.drawn := by
      rcases hw1 with rfl | rfl
      · exact ⟨rfl, rfl, rfl, rfl, Nat.le_refl _⟩
      · exact ⟨rfl, rfl, rfl, rfl, Nat.le_succ _⟩
    obtain ⟨x1, x2, x3, x4, x5⟩ := hwo
    have hs1 : w1.heap[w.heap.size]? = some (.mapIter (some (ρ 1)) es.size seen c0) := by rw [x1]; exact s1
    obtain ⟨y1, y2⟩ := MapKept.heap_set (o' := .mapIter (some (ρ 1)) es.size (seen.push e.born) es.size) hs1
    generalize hw2 : setBlock w1 w.heap.size (.mapIter (some (ρ 1)) es.size (seen.push e.born) es.size) = w2 at *
    have z1 : w2.heap[w.heap.size]? = some (.mapIter (some (ρ 1)) es.size (seen.push e.born) es.size) := by rw [← hw2]; exact y1
    have z2 : ∀ i, i < w.heap.size → w2.heap[i]? = w.heap[i]? := fun i hi' => by
      rw [← hw2]
      exact (y2 i (by omega)).trans (by rw [x1]; exact hi.old i hi')
    have z3 : w2.os = w.os ∧ w2.tape = w.tape ∧ Out w w2 ∧ w2.heap.size = w'.heap.size := by
      rw [← hw2]
      refine ⟨x2.trans hi.os, x3.trans hi.tape, ⟨x4.trans hi.out.1, Nat.le_trans hi.out.2 x5⟩, ?_⟩
      show (w1.heap.setIfInBounds _ _).size = _
      simp [x1]
    have zb : w2.heap[ρ 1]? = some (.map es es.size) := (z2 _ hbl).trans hb
    have hent2 := run_entry_at (P := Tryz.prog) w2 w.heap.size (ρ 1) es.size seen es es.size e z1 zb hem (born_nodup es hborn)
    obtain ⟨p, hp, hpv⟩ := hval e hem
    have hfm : Fm35 a w a' w2 := ⟨hi.df, hi.sz, hi.it, hi.t8, hi.t13, z3.1, z3.2.1, z3.2.2.1, by rw [z3.2.2.2]; exact hi.size, z2⟩
    have hf3 := (hfm.put 122 (.tuple #[.bool true, e.key, e.val]) (by decide) (by decide) (by decide) (by decide)).put 123 (.bool true) (by decide) (by decide) (by decide) (by decide)
    generalize (a'.put (some 122) (.tuple #[.bool true, e.key, e.val])).put (some 123) (.bool true) = a3 at hf3
    show Code.wp _ (.block 7 _) _ _ _
    refine wp_block ?_
    refine wp_seq ?_
    apply wp_region_lit
    have hev3 : a3.eval (.tmp 121) = .pointer (some ⟨w.heap.size, 0, none⟩) := hf3.it
    refine step_val rfl (w' := w2) (v := .tuple #[e.key, e.val]) (by simp [execOp, hev3, hent2, Result.andThen]) ?_
    have g124 : (a3.put (some 124) (.tuple #[e.key, e.val])).eval (.tmp 124) = .tuple #[e.key, e.val] := put_at 124 _ (by rw [hf3.sz]; decide)
    refine step_val rfl (w' := w2) (v := .int .i64 p.2) (by rw [← hpv]; simp [execOp, g124, Instr.extract]) ?_
    have hf4 := (hf3.put 124 (.tuple #[e.key, e.val]) (by decide) (by decide) (by decide) (by decide)).put 125 (.int .i64 p.2) (by decide) (by decide) (by decide) (by decide)
    have g125 : ((a3.put (some 124) (.tuple #[e.key, e.val])).put (some 125) (.int .i64 p.2)).eval (.tmp 125) = .int .i64 p.2 := put_at 125 _ (by rw [put_size, hf3.sz]; decide)
    generalize (a3.put (some 124) (.tuple #[e.key, e.val])).put (some 125) (.int .i64 p.2) = a4 at hf4 g125
    refine step_val rfl (w' := w2) (v := .int .i64 p.2) (by simp [execOp, g125]) ?_
    refine wpList_nil ?_
    show Code.wp _ (.seq _ _) _ _ _
    refine wp_seq ?_
    apply wp_region_lit
    have hf5 := hf4.put 19 (.int .i64 p.2) (by decide) (by decide) (by decide) (by decide)
    have g19 : (a4.put (some 19) (.int .i64 p.2)).eval (.tmp 19) = .int .i64 p.2 := put_at 19 _ (by rw [hf4.sz]; decide)
    generalize a4.put (some 19) (.int .i64 p.2) = a5 at hf5 g19
    refine step_val rfl (w' := w2) (v := .int .i64 p.2) (by simp [execOp, g19]) ?_
    have hf6 := hf5.put 126 (.int .i64 p.2) (by decide) (by decide) (by decide) (by decide)
    have g126 : (a5.put (some 126) (.int .i64 p.2)).eval (.tmp 126) = .int .i64 p.2 := put_at 126 _ (by rw [hf5.sz]; decide)
    generalize a5.put (some 126) (.int .i64 p.2) = a6 at hf6 g126
    refine step_val rfl (w' := w2) (v := .bool (p.2 != 0)) (neq_run g126 _ rfl w2) ?_
    have hf7 := hf6.put 127 (.bool (p.2 != 0)) (by decide) (by decide) (by decide) (by decide)
    refine wpList_nil ?_
    show Code.wp _ (.cond _ _ _) _ _ _
    refine wp_cond_split (put_at 127 _ (by rw [hf6.sz]; decide)) (fun hb => ?_) (fun hb => ?_)
    · have hz : ¬ (m.all fun e => e.2 == 0) = true := by
        intro hall
        have := List.all_eq_true.1 hall p hp
        simp at this hb
        exact hb this
      simp only [gE, if_neg hz] at hO
      subst hO
      refine wc_wp (sp := sp35) (keep := keep35) (fuel := 0) (bid := 0) (σ := tailS σ) (Q := RetQ Tryz.f35.results (retO none)) mixed ty_ok hs35 ?_ (by kernel_rfl) (back _ _ hf7) (fun x => x) ?_
      · refine W_seq ?_
        refine W_reg ?_
        refine X_op' rfl (A_build rfl rfl rfl .nil rfl rfl rfl) ?_
        refine X_op' rfl (A_stV rfl rfl rfl (V_t rfl) (K_t rfl) m0 rfl rfl rfl rfl rfl rfl) ?_
        refine X_op' rfl (A_mvT (.inr rfl) rfl rfl) ?_
        refine X_endS ?_
        refine W_ret ?_
        exact end_R rfl (.c rfl (ld_mp rfl rfl rfl rfl rfl rfl) (.t rfl .nil))
      · intro e σ' a2 w2 hq hr
        cases e with
        | normal => exact hq.elim
        | ret => exact ⟨.inr rfl, σ', hr, hq⟩
        | exit i => exact hq.elim
    · have hz : p.2 = 0 := by simpa using hb
      refine wp_skip ?_
      show It35 a w (ρ 1) es _ w2 ∧ leftN (ρ 1) w.heap.size w2 < leftN (ρ 1) w.heap.size w'
      refine ⟨⟨hf7, seen.push e.born, es.size, z1, Nat.le_refl _, fun e' he' hs => ?_⟩, ?_⟩
      · rw [contains_push, Bool.or_eq_true] at hs
        rcases hs with hs | hs
        · exact s3 e' he' hs
        · have : e' = e := by
            have h1 : e'.born = e.born := by simpa using hs
            obtain ⟨i, hi1⟩ := List.getElem?_of_mem he'
            obtain ⟨j, hj1⟩ := List.getElem?_of_mem hem
            have h2 := hborn i e' (by simpa using hi1)
            have h3 := hborn j e (by simpa using hj1)
            have : i = j := by omega
            subst this
            rw [hi1] at hj1
            exact Option.some.inj hj1
          rw [this, hpv, hz]
      · unfold leftN
        simp only [zb, z1, hb', s1]
        exact left_shrinks es seen e he

open Classical in
/-- The whole: what it answers. -/
noncomputable def g35 : List T → Option Ret := fun ts =>
  if h : ∃ (n : Nat) (xs : List Rr) (lo hi is : List Int), ts = [tl xs, ti lo, ti hi, ti is] ∧ Ok35 n xs lo hi is then
    some (retO (gP (tF h.choose_spec.choose) (iF h.choose_spec.choose_spec.choose) (iF h.choose_spec.choose_spec.choose_spec.choose) (iF h.choose_spec.choose_spec.choose_spec.choose_spec.choose) h.choose_spec.choose.length (ordQ h.choose_spec.choose))) else none
theorem ii_inj {l k : List Int} (h : l.map ii = k.map ii) : l = k := by
  refine List.map_inj_right (f := ii) (fun a b hab => ?_) |>.1 h
  simpa using hab
theorem c35 {n : Nat} {xs : List Rr} {lo hi is : List Int} (hok : Ok35 n xs lo hi is) : g35 [tl xs, ti lo, ti hi, ti is] = some (retO (gP (tF xs) (iF lo) (iF hi) (iF is) xs.length (ordQ xs))) := by
  have hex : ∃ (n : Nat) (ys : List Rr) (lo' hi' is' : List Int), [tl xs, ti lo, ti hi, ti is] = [tl ys, ti lo', ti hi', ti is'] ∧ Ok35 n ys lo' hi' is' := ⟨n, xs, lo, hi, is, rfl, hok⟩
  unfold g35
  rw [dif_pos hex]
  have hs := hex.choose_spec.choose_spec.choose_spec.choose_spec.choose_spec.1
  generalize hex.choose_spec.choose_spec.choose_spec.choose_spec.choose = is' at hs
  generalize hex.choose_spec.choose_spec.choose_spec.choose = hi' at hs
  generalize hex.choose_spec.choose_spec.choose = lo' at hs
  generalize hex.choose_spec.choose = ys at hs
  simp only [List.cons.injEq, T.sl.injEq, true_and, and_true] at hs
  obtain ⟨h1, h2, h3, h4⟩ := hs
  rw [tl_inj h1, ii_inj h2, ii_inj h3, ii_inj h4]
theorem s35 : SpecOk Tryz.prog 35 (viewSpec fun ts => if ts.length = 4 then g35 ts else none) := by
  refine gen_ok ty_ok (c := Tryz.f35.body.getD .skip) Tryz.func35 rfl (enters_of Tryz.func35 (by kernel_rfl) rfl) g35 false 4 (by decide) fun ts r hlen hg okA ρ0 w a hrel => ?_
  unfold g35 at hg
  split at hg
  · rename_i h
    have hs := h.choose_spec.choose_spec.choose_spec.choose_spec.choose_spec
    generalize h.choose_spec.choose_spec.choose_spec.choose_spec.choose = is at hs hg
    generalize h.choose_spec.choose_spec.choose_spec.choose = hi at hs hg
    generalize h.choose_spec.choose_spec.choose = lo at hs hg
    generalize h.choose_spec.choose = xs at hs hg
    generalize h.choose = n at hs
    obtain ⟨rfl, hok⟩ := hs
    simp only [Option.some.injEq] at hg
    subst hg
    generalize hO : gP (tF xs) (iF lo) (iF hi) (iF is) xs.length (ordQ xs) = O
    have hw : WC ty sp35 0 keep35 4398046511104 (cPre 8 (Tryz.f35.body.getD .skip)) 0 { tm := [tl xs, ti lo, ti hi, ti is].zipIdx.map fun p => (p.2, .t p.1), mm := [], nx := 0 } (CutQ ty Tryz.f35.results (retO O) (X35 O)) := pre35 hok hO 4398046511104 (by decide) _ rfl
    rw [WC_iff] at hw
    generalize hcc : Tryz.f35.body.getD .skip = cc at hw
    cases he : evalC ty sp35 0 keep35 4398046511104 (cPre 8 cc) 0 { tm := [tl xs, ti lo, ti hi, ti is].zipIdx.map fun p => (p.2, .t p.1), mm := [], nx := 0 } with
    | none => rw [he] at hw; exact hw.elim
    | some q =>
      obtain ⟨e, σ'⟩ := q
      rw [he] at hw
      subst hcc
      refine cut_ok (F := ⟨0, ρ0⟩) mixed ty_ok hs35 keep35 4398046511104 8 _ 0 _ σ' e (by kernel_rfl) (by kernel_rfl) he a w hrel (fun hne a' w' hr => ?_) (fun hee a' w' hr => ?_)
      · cases e with
        | normal => exact ⟨.inl rfl, σ', hr, hw⟩
        | ret => exact ⟨.inr rfl, σ', hr, hw⟩
        | exit i => exact absurd (by rw [hw.1]) hne
      · subst hee
        obtain ⟨ρ', hr'⟩ := hr
        exact post35 hw.2 hr' rfl
  · cases hg
end Go.Ev.S
/- The reference's greatest of one island. -/
set_option linter.unusedVariables false
set_option linter.unusedSimpArgs false
set_option maxRecDepth 100000
namespace Go.Ev.S
open Go Go.Ev Go.Proofs NumA
theorem cmpQ_pos {p q : Rat} : 0 < cmpQ p q ↔ q < p := by
  unfold cmpQ
  by_cases h1 : p < q
  · rw [if_pos h1]
    exact ⟨fun h => absurd h (by decide), fun h => absurd (Rat.le_of_lt h) (Rat.not_le.2 h1)⟩
  · rw [if_neg h1]
    by_cases h2 : p = q
    · rw [if_pos h2]; subst h2
      exact ⟨fun h => absurd h (by decide), fun h => absurd h Rat.lt_irrefl⟩
    · rw [if_neg h2]
      refine ⟨fun _ => Rat.not_le.1 fun h => h2 (Rat.le_antisymm h (Rat.not_lt.1 h1)), fun _ => by decide⟩
theorem mul17 {n : Nat} {x : Rr} {v : Int} (hx : x.ok n) (hn0 : 0 < n) (hn : n ≤ 1000000) (hv : -4294967296 < v ∧ v < 4294967296) : g17 [x.t, tc (v : Rat)] = some (.ts [tc (x.v * (v : Rat))]) := by
  have h1 : Fit 1 ((v : Int) : Rat) := fit_int (by rw [P_one]; omega) (by omega)
  have h := c17 (n := n + 1) (hx.le (by omega)) ((Rw.can h1).le (by omega)) (by omega) (by omega)
  rw [tc_rv] at h
  exact h
theorem step16 {n s : Nat} {q : Rat} {x : Rr} {v : Int} (hq : Fit (1 + s * (n + 2)) q) (hs : s ≤ 65) (hx : x.ok n) (hn0 : 0 < n) (hn : n ≤ 1000000) (hv : -4294967296 < v ∧ v < 4294967296) : g16 [tc q, tc (x.v * (v : Rat))] = some (.ts [tc (q + x.v * (v : Rat))]) := by
  have h1 : Fit 1 ((v : Int) : Rat) := fit_int (by rw [P_one]; omega) (by omega)
  have h2 := fit_mul (Rw.fit hx hn0) h1
  have h3 : Fit (1 + 65 * (n + 2)) q := hq.le (by have := Nat.mul_le_mul_right (n + 2) hs; omega)
  have h := c16 (Rw.can h3) (Rw.can (h2.le (show n + 1 ≤ 1 + 65 * (n + 2) by omega))) (by omega) (by omega)
  rw [tc_rv, tc_rv] at h
  exact h
abbrev bt (b : Bool) : T := .v (.bool b)
def bI : Option Nat → Int
  | none => -1
  | some b => (b : Int)
def rRet : Option (Rat × Bool) → Ret
  | none => .ts [zT, .v (.bool false)]
  | some (q, b) => .ts [tc q, .v (.bool b)]
def rG2 (t : Nat → Rat) (lo hi : Nat → Int) (n : Nat) : Option (List Bool × Rat × Int) → Option (Rat × Bool)
  | none => none
  | some (U, q, need) => rC t lo hi n (n + 1) U q need
theorem rG_eq (t : Nat → Rat) (lo hi isl : Nat → Int) (n : Nat) (k0 : Int) : rG t lo hi isl n k0 = rG2 t lo hi n (rA t lo hi isl k0 n 0 (List.replicate n false) 0 0) := by
  unfold rG rG2
  cases rA t lo hi isl k0 n 0 (List.replicate n false) 0 0 <;> rfl
def st37a (xs : List Rr) (lo hi is : List Int) (k0 : Int) (U : List Bool) (q : Rat) (need i : Int) : St := { tm := [(0, .t (tl xs)), (1, .t (ti lo)), (2, .t (ti hi)), (3, .t (ti is)), (4, .t (ii k0)), (10, .mp 0 3 0 0), (11, .t (.v (.bool false))), (12, .mp 1 3 0 0), (13, .t (ii need)), (14, .ms 2 1 0 xs.length), (15, .t (ii i))], mm := [(0, some ⟨30, 3, [zT]⟩), (1, some ⟨30, 3, [tc q]⟩), (2, some ⟨4, 1, U.map bt⟩)], nx := 3 }
def st37b (xs : List Rr) (lo hi is : List Int) (U : List Bool) (q : Rat) (need : Int) : St := { tm := [(0, .t (tl xs)), (1, .t (ti lo)), (2, .t (ti hi)), (3, .t (ti is)), (10, .mp 0 3 0 0), (11, .t (.v (.bool false))), (12, .mp 1 3 0 0), (13, .t (ii need)), (14, .ms 2 1 0 xs.length)], mm := [(0, some ⟨30, 3, [zT]⟩), (1, some ⟨30, 3, [tc q]⟩), (2, some ⟨4, 1, U.map bt⟩)], nx := 3 }
def st37c (xs : List Rr) (lo hi is : List Int) (U : List Bool) (q : Rat) (need b i : Int) : St := { tm := [(0, .t (tl xs)), (1, .t (ti lo)), (2, .t (ti hi)), (3, .t (ti is)), (10, .mp 0 3 0 0), (11, .t (.v (.bool false))), (12, .mp 1 3 0 0), (13, .t (ii need)), (14, .ms 2 1 0 xs.length), (16, .t (ii b)), (17, .t (ii i))], mm := [(0, some ⟨30, 3, [zT]⟩), (1, some ⟨30, 3, [tc q]⟩), (2, some ⟨4, 1, U.map bt⟩)], nx := 3 }
theorem getD_any {α : Type} {l : List α} {i : Nat} (d e : α) (h : i < l.length) : l.getD i d = l.getD i e := by
  rw [List.getD_eq_getElem?_getD, List.getD_eq_getElem?_getD, List.getElem?_eq_getElem h]; rfl
theorem fit_up {n s : Nat} {q : Rat} (h : Fit (1 + s * (n + 2)) q) : Fit (1 + (s + 1) * (n + 2)) q := h.le (by have := Nat.mul_le_mul_right (n + 2) (show s ≤ s + 1 by omega); omega)
end Go.Ev.S
/- The screen's extreme values. -/
set_option linter.unusedVariables false
set_option linter.unusedSimpArgs false
set_option maxRecDepth 100000
namespace Go.Ev.S
open Go Go.Ev Go.Proofs NumA
/-- An answer, or nothing. -/
def oB : Option Rat → Bool
  | none => false
  | some q => decide (q.num < 0)
def oL : Option Rat → List Int
  | none => []
  | some q => en (q.num.natAbs : Int)
def oK : Option Rat → List Int
  | none => []
  | some q => en (q.den : Int)
abbrev oT (o : Option Rat) : T := tq (oB o) (oL o) (oK o)
theorem rv_o (o : Option Rat) : rv (oB o) (oL o) (oK o) = o.getD 0 := by
  cases o with
  | none => simp [oB, oL, oK, rv, nv, Rat.divInt_zero]
  | some q => exact tc_rv q
theorem Rw_o {M : Nat} {o : Option Rat} (h : ∀ q, o = some q → Fit M q) : Rw M (oB o) (oL o) (oK o) := by
  cases o with
  | none => exact ⟨U32_nil, U32_nil, by simp [oL], by simp [oK]⟩
  | some q => exact Rw.can (h q rfl)
theorem retO_eq (o : Option Rat) : retO o = .ts [oT o, .v (.bool o.isSome)] := by cases o <;> rfl
noncomputable def gg35 : List T → Option Ret := fun ts => if ts.length = 4 then g35 ts else none
theorem ss35 : SpecOk Tryz.prog 35 (viewSpec gg35) := s35
theorem cc35 {n : Nat} {xs : List Rr} {lo hi is : List Int} (hok : Ok35 n xs lo hi is) : gg35 [tl xs, ti lo, ti hi, ti is] = some (.ts [oT (gP (tF xs) (iF lo) (iF hi) (iF is) xs.length (ordQ xs)), .v (.bool (gP (tF xs) (iF lo) (iF hi) (iF is) xs.length (ordQ xs)).isSome)]) := by
  rw [← retO_eq]; exact (if_pos rfl).trans (c35 hok)
/-- The other way round. -/
def negR (x : Rr) : Rr := ⟨decide ((-x.v).num < 0), en ((-x.v).num.natAbs : Int), en ((-x.v).den : Int)⟩
theorem negR_v (x : Rr) : (negR x).v = -x.v := tc_rv _
theorem negR_ok {n : Nat} {x : Rr} (h : x.ok n) (hn : 0 < n) : (negR x).ok n := Rw.can (fit_neg (Rw.fit h hn))
theorem r0_neg : negR r0 = ⟨false, [], en 1⟩ := by
  have h : -r0.v = 0 := by
    have : r0.v = 0 := by simp [Rr.v, r0, rv, nv, Rat.divInt_zero]
    rw [this]; simp
  unfold negR
  rw [h]
  simp [en_zero]
def inB (lo hi : List Int) (i : Nat) : Prop := (-1073741824 ≤ lo.getD i 0 ∧ lo.getD i 0 ≤ 1073741824) ∧ -1073741824 ≤ hi.getD i 0 ∧ hi.getD i 0 ≤ 1073741824
instance (lo hi : List Int) (i : Nat) : Decidable (inB lo hi i) := inferInstanceAs (Decidable ((_ ∧ _) ∧ _ ∧ _))
/-- What both ask of the arguments. -/
def inE (xs : List Rr) (lo hi is : List Int) : Prop := xs.length ≤ 32 ∧ lo.length = xs.length ∧ hi.length = xs.length ∧ is.length = xs.length ∧ ∀ i, i < xs.length → inB lo hi i
instance (xs : List Rr) (lo hi is : List Int) : Decidable (inE xs lo hi is) := inferInstanceAs (Decidable (_ ∧ _ ∧ _ ∧ _ ∧ _))
theorem Bd_lo {lo hi : List Int} {N : Nat} (h : ∀ i, i < N → inB lo hi i) (hl : lo.length = N) : Bd lo := fun i => by
  by_cases hi' : i < N
  · exact (h i hi').1
  · rw [List.getD_eq_getElem?_getD, List.getElem?_eq_none (by omega)]; simp
theorem Bd_hi {lo hi : List Int} {N : Nat} (h : ∀ i, i < N → inB lo hi i) (hl : hi.length = N) : Bd hi := fun i => by
  by_cases hi' : i < N
  · exact (h i hi').2
  · rw [List.getD_eq_getElem?_getD, List.getElem?_eq_none (by omega)]; simp
theorem ok35_of {n : Nat} {xs : List Rr} {lo hi is : List Int} (w : ∀ x ∈ xs, x.ok n) (hn0 : 0 < n) (hn : n ≤ 1000000) (h : inE xs lo hi is) : Ok35 n xs lo hi is :=
  ⟨w, hn0, hn, h.1, h.2.1, h.2.2.1, h.2.2.2.1, Bd_lo h.2.2.2.2 h.2.1, Bd_hi h.2.2.2.2 h.2.2.1⟩
theorem ok35_neg {n : Nat} {xs : List Rr} {lo hi is : List Int} (h : Ok35 n xs lo hi is) : Ok35 n (xs.map negR) lo hi is :=
  ⟨fun x hx => by obtain ⟨y, hy, rfl⟩ := List.mem_map.1 hx; exact negR_ok (h.w y hy) h.hn0, h.hn0, h.hn, by rw [List.length_map]; exact h.hN, by rw [List.length_map]; exact h.l1, by rw [List.length_map]; exact h.l2, by rw [List.length_map]; exact h.l3, h.b1, h.b2⟩
theorem gP35_fit {n : Nat} {xs : List Rr} {lo hi is : List Int} (h : Ok35 n xs lo hi is) {q : Rat} (hq : gP (tF xs) (iF lo) (iF hi) (iF is) xs.length (ordQ xs) = some q) : Fit (1 + 64 * (n + 2)) q :=
  gP_fit (fun i => Rw.fit (getD_ok h.w _) h.hn0) h.b1 h.b2 h.hN (by rw [(ordQ_perm xs).length_eq, List.length_range]) hq
/-- What the program answers. -/
def exP (xs : List Rr) (lo hi is : List Int) : Option (Rat × Rat) :=
  if inE xs lo hi is then
    match gP (tF xs) (iF lo) (iF hi) (iF is) xs.length (ordQ xs) with
    | none => none
    | some most => some (-((gP (tF (xs.map negR)) (iF lo) (iF hi) (iF is) (xs.map negR).length (ordQ (xs.map negR))).getD 0), most)
  else none
def retX (o : Option (Rat × Rat)) : Ret := .ts [oT (o.map (·.1)), oT (o.map (·.2)), .v (.bool o.isSome)]
def negL (xs : List Rr) (i : Nat) : List Rr := (xs.take i).map negR ++ List.replicate (xs.length - i) r0
theorem negL_len (xs : List Rr) (i : Nat) (h : i ≤ xs.length) : (negL xs i).length = xs.length := by simp [negL]; omega
theorem negL_all (xs : List Rr) : negL xs xs.length = xs.map negR := by simp [negL]
theorem negL_set (xs : List Rr) (i : Nat) (h : i < xs.length) : (negL xs i).set i (negR (xs.getD i r0)) = negL xs (i + 1) := by
  unfold negL
  rw [List.set_append_right i _ (by simp; omega), List.length_map, List.length_take, Nat.min_eq_left (by omega), Nat.sub_self, take_succ_r xs i h, List.map_append, List.append_assoc]
  congr 1
  rw [show xs.length - i = (xs.length - (i + 1)) + 1 by omega, List.replicate_succ]
  rfl
theorem maxI (a b : Int) : (if a < b then b else a) = max a b := by omega
def st11a (xs : List Rr) (lo hi is : List Int) (i : Int) : St := { tm := [(0, .t (tl xs)), (1, .t (ti lo)), (2, .t (ti hi)), (3, .t (ti is)), (8, .mp 0 3 0 0), (9, .mp 1 3 0 0), (10, .t (.v (.bool false))), (11, .t (ii ((xs.map Rr.t).length : Int))), (39, .t (ii ((xs.map Rr.t).length : Int))), (40, .t (ii i))], mm := [(0, some ⟨30, 3, [zT]⟩), (1, some ⟨30, 3, [zT]⟩)], nx := 2 }
def st11b (xs : List Rr) (lo hi is : List Int) (b : Bool) (o : Option Rat) (L : List Rr) (i : Int) : St := { tm := [(0, .t (tl xs)), (1, .t (ti lo)), (2, .t (ti hi)), (3, .t (ti is)), (8, .mp 0 3 0 0), (9, .mp 1 3 0 0), (10, .t (.v (.bool b))), (13, .ms 2 3 0 xs.length), (82, .t (ii ((xs.map Rr.t).length : Int))), (83, .t (ii i))], mm := [(0, some ⟨30, 3, [zT]⟩), (1, some ⟨30, 3, [oT o]⟩), (2, some ⟨30, 3, L.map Rr.t⟩)], nx := 3 }
def keep11 : Nat → List Nat := fun b => if b = 0 then [0, 1, 2, 3, 8, 9, 10, 11, 39, 40] else [0, 1, 2, 3, 8, 9, 10, 13, 82, 83]
noncomputable def sp11 : Nat → Option Spec := (more 35 (viewSpec gg35) (more 36 (viewSpec g36) noneS))
theorem hs11 : ∀ f s, sp11 f = some s → SpecOk Tryz.prog f s := (more_ok ss35 (more_ok s36 none_ok))
noncomputable def fu11 : List T → Nat := fun _ => 4398046511104
noncomputable def g11 : List T → Option Ret := fun ts => if ts.length = 4 then pureRun ty sp11 keep11 (fu11 ts) false Tryz.f11.results (Tryz.f11.body.getD .skip) ts else none
theorem s11 : SpecOk Tryz.prog 11 (viewSpec g11) := pure_ok mixed ty_ok hs11 Tryz.func11 rfl (by kernel_rfl) (enters_of Tryz.func11 (by kernel_rfl) rfl) keep11 fu11 false 4 (by decide)
set_option maxHeartbeats 4000000 in
theorem c11 {n : Nat} {xs : List Rr} {lo hi is : List Int} (w : ∀ x ∈ xs, x.ok n) (hn0 : 0 < n) (hn : n ≤ 1000000) (hx : xs.length ≤ 1000000) (g1 : lo.length ≤ 1000000) (g2 : hi.length ≤ 1000000) (g3 : is.length ≤ 1000000) : g11 [tl xs, ti lo, ti hi, ti is] = some (retX (exP xs lo hi is)) := by
  have run : ∀ (fuel : Nat) (hf : 1099511627776 < fuel) (c : Code) (hc : Tryz.f11.body = some c), pureRun ty sp11 keep11 fuel false Tryz.f11.results c [tl xs, ti lo, ti hi, ti is] = some (retX (exP xs lo hi is)) := by
   intro fuel hf c hc
   injection hc with hc
   subst hc
   have el : (xs.map Rr.t).length = xs.length := List.length_map _
   have e1 : (lo.map ii).length = lo.length := List.length_map _
   have e2 : (hi.map ii).length = hi.length := List.length_map _
   have e3 : (is.map ii).length = is.length := List.length_map _
   refine pure_wc ?_
   refine wsr ?_
   refine X_op' rfl (A_alloc rfl rfl) ?_
   refine X_op' rfl (A_alloc rfl rfl) ?_
   refine xa rfl rfl rfl rfl ?_
   refine X_endS ?_
   try dsimp only [St.put, szA, List.length, Nat.reduceAdd]
   refine wsr ?_
   refine xm rfl rfl rfl rfl ?_
   refine X_op' rfl (A_lenT rfl rfl rfl rfl rfl rfl rfl) ?_
   refine xa rfl rfl rfl rfl ?_
   refine X_endS ?_
   try dsimp only [St.put, szA, List.length, Nat.reduceAdd]
   refine W_seq ?_
   refine wsr ?_
   refine xm rfl rfl rfl rfl ?_
   refine X_op' rfl (A_int rfl rfl rfl ⟨by decide, by decide⟩ rfl) ?_
   refine xm rfl rfl rfl rfl ?_
   refine X_both (d := 19) rfl (fun hb1 => ?_) (fun hb1 => ?_)
   ·have khb1 := hb1; (try simp only [kb] at khb1)
    refine X_no1 rfl rfl rfl hb1 ?_
    refine X_no1 rfl rfl rfl hb1 ?_
    refine X_no1 rfl rfl rfl hb1 ?_
    refine X_no1 rfl rfl rfl hb1 ?_
    refine X_op' rfl (A_pickT rfl rfl hb1 rfl) ?_
    refine xm rfl rfl rfl rfl ?_
    refine X_no1 rfl rfl rfl rfl ?_
    refine X_no1 rfl rfl rfl rfl ?_
    refine X_no1 rfl rfl rfl rfl ?_
    refine X_no1 rfl rfl rfl rfl ?_
    refine X_op' rfl (A_pickT rfl rfl rfl rfl) ?_
    refine xm rfl rfl rfl rfl ?_
    refine X_no1 rfl rfl rfl rfl ?_
    refine X_no1 rfl rfl rfl rfl ?_
    refine X_no1 rfl rfl rfl rfl ?_
    refine X_no1 rfl rfl rfl rfl ?_
    refine X_op' rfl (A_pickT rfl rfl rfl rfl) ?_
    refine X_endS ?_
    try dsimp only [St.put, szA, List.length, Nat.reduceAdd]
    refine W_condT rfl rfl ?_
    refine wsr ?_
    refine X_op' rfl (A_build rfl rfl rfl .nil rfl rfl rfl) ?_
    refine X_op' rfl (A_build rfl rfl rfl .nil rfl rfl rfl) ?_
    refine X_op' rfl (A_stV rfl rfl rfl (V_t rfl) (K_t rfl) rfl rfl rfl rfl rfl rfl rfl) ?_
    refine X_op' rfl (A_stV rfl rfl rfl (V_t rfl) (K_t rfl) rfl rfl rfl rfl rfl rfl rfl) ?_
    refine xa rfl rfl rfl rfl ?_
    refine X_endS ?_
    try dsimp only [St.put, szA, List.length, Nat.reduceAdd]
    refine W_ret ?_
    refine Q_seqX ?_
    have hO9 : exP xs lo hi is = none := if_neg fun hin => by obtain ⟨h1, h2, h3, h4, _⟩ := hin; omega
    rw [hO9]
    exact end_R rfl (.c rfl (ld_mp rfl rfl rfl rfl rfl rfl) (.c rfl (ld_mp rfl rfl rfl rfl rfl rfl) (.t rfl .nil)))
   ·have khb1 := hb1; (try simp only [kb] at khb1)
    refine X_yes' rfl rfl rfl hb1 (A_mvT (.inl rfl) rfl rfl) ?_
    refine X_yes' rfl rfl rfl hb1 (A_lenT rfl rfl rfl rfl rfl rfl rfl) ?_
    refine X_yes' rfl rfl rfl hb1 (A_mvT (.inl rfl) rfl rfl) ?_
    refine X_yes' rfl rfl rfl hb1 (A_int rfl rfl rfl ⟨by decide, by decide⟩ rfl) ?_
    refine X_op' rfl (A_pickF rfl rfl hb1 rfl) ?_
    refine xm rfl rfl rfl rfl ?_
    refine X_both (d := 25) rfl (fun hb2 => ?_) (fun hb2 => ?_)
    ·have khb2 := hb2; (try simp only [kb] at khb2)
     refine X_no1 rfl rfl rfl hb2 ?_
     refine X_no1 rfl rfl rfl hb2 ?_
     refine X_no1 rfl rfl rfl hb2 ?_
     refine X_no1 rfl rfl rfl hb2 ?_
     refine X_op' rfl (A_pickT rfl rfl hb2 rfl) ?_
     refine xm rfl rfl rfl rfl ?_
     refine X_no1 rfl rfl rfl rfl ?_
     refine X_no1 rfl rfl rfl rfl ?_
     refine X_no1 rfl rfl rfl rfl ?_
     refine X_no1 rfl rfl rfl rfl ?_
     refine X_op' rfl (A_pickT rfl rfl rfl rfl) ?_
     refine X_endS ?_
     try dsimp only [St.put, szA, List.length, Nat.reduceAdd]
     refine W_condT rfl rfl ?_
     refine wsr ?_
     refine X_op' rfl (A_build rfl rfl rfl .nil rfl rfl rfl) ?_
     refine X_op' rfl (A_build rfl rfl rfl .nil rfl rfl rfl) ?_
     refine X_op' rfl (A_stV rfl rfl rfl (V_t rfl) (K_t rfl) rfl rfl rfl rfl rfl rfl rfl) ?_
     refine X_op' rfl (A_stV rfl rfl rfl (V_t rfl) (K_t rfl) rfl rfl rfl rfl rfl rfl rfl) ?_
     refine xa rfl rfl rfl rfl ?_
     refine X_endS ?_
     try dsimp only [St.put, szA, List.length, Nat.reduceAdd]
     refine W_ret ?_
     refine Q_seqX ?_
     have hO9 : exP xs lo hi is = none := if_neg fun hin => by obtain ⟨h1, h2, h3, h4, _⟩ := hin; omega
     rw [hO9]
     exact end_R rfl (.c rfl (ld_mp rfl rfl rfl rfl rfl rfl) (.c rfl (ld_mp rfl rfl rfl rfl rfl rfl) (.t rfl .nil)))
    ·have khb2 := hb2; (try simp only [kb] at khb2)
     refine X_yes' rfl rfl rfl hb2 (A_mvT (.inl rfl) rfl rfl) ?_
     refine X_yes' rfl rfl rfl hb2 (A_lenT rfl rfl rfl rfl rfl rfl rfl) ?_
     refine X_yes' rfl rfl rfl hb2 (A_mvT (.inl rfl) rfl rfl) ?_
     refine X_yes' rfl rfl rfl hb2 (A_int rfl rfl rfl ⟨by decide, by decide⟩ rfl) ?_
     refine X_op' rfl (A_pickF rfl rfl hb2 rfl) ?_
     refine xm rfl rfl rfl rfl ?_
     refine X_both (d := 31) rfl (fun hb3 => ?_) (fun hb3 => ?_)
     ·have khb3 := hb3; (try simp only [kb] at khb3)
      refine X_no1 rfl rfl rfl hb3 ?_
      refine X_no1 rfl rfl rfl hb3 ?_
      refine X_no1 rfl rfl rfl hb3 ?_
      refine X_no1 rfl rfl rfl hb3 ?_
      refine X_op' rfl (A_pickT rfl rfl hb3 rfl) ?_
      refine X_endS ?_
      try dsimp only [St.put, szA, List.length, Nat.reduceAdd]
      refine W_condT rfl rfl ?_
      refine wsr ?_
      refine X_op' rfl (A_build rfl rfl rfl .nil rfl rfl rfl) ?_
      refine X_op' rfl (A_build rfl rfl rfl .nil rfl rfl rfl) ?_
      refine X_op' rfl (A_stV rfl rfl rfl (V_t rfl) (K_t rfl) rfl rfl rfl rfl rfl rfl rfl) ?_
      refine X_op' rfl (A_stV rfl rfl rfl (V_t rfl) (K_t rfl) rfl rfl rfl rfl rfl rfl rfl) ?_
      refine xa rfl rfl rfl rfl ?_
      refine X_endS ?_
      try dsimp only [St.put, szA, List.length, Nat.reduceAdd]
      refine W_ret ?_
      refine Q_seqX ?_
      have hO9 : exP xs lo hi is = none := if_neg fun hin => by obtain ⟨h1, h2, h3, h4, _⟩ := hin; omega
      rw [hO9]
      exact end_R rfl (.c rfl (ld_mp rfl rfl rfl rfl rfl rfl) (.c rfl (ld_mp rfl rfl rfl rfl rfl rfl) (.t rfl .nil)))
     ·have khb3 := hb3; (try simp only [kb] at khb3)
      refine X_yes' rfl rfl rfl hb3 (A_mvT (.inl rfl) rfl rfl) ?_
      refine X_yes' rfl rfl rfl hb3 (A_lenT rfl rfl rfl rfl rfl rfl rfl) ?_
      refine X_yes' rfl rfl rfl hb3 (A_mvT (.inl rfl) rfl rfl) ?_
      refine X_yes' rfl rfl rfl hb3 (A_int rfl rfl rfl ⟨by decide, by decide⟩ rfl) ?_
      refine X_op' rfl (A_pickF rfl rfl hb3 rfl) ?_
      refine X_endS ?_
      try dsimp only [St.put, szA, List.length, Nat.reduceAdd]
      refine W_condB rfl (fun hb4 => ?_) (fun hb4 => ?_)
      ·have khb4 := hb4; (try simp only [kb] at khb4)
       refine wsr ?_
       refine X_op' rfl (A_build rfl rfl rfl .nil rfl rfl rfl) ?_
       refine X_op' rfl (A_build rfl rfl rfl .nil rfl rfl rfl) ?_
       refine X_op' rfl (A_stV rfl rfl rfl (V_t rfl) (K_t rfl) rfl rfl rfl rfl rfl rfl rfl) ?_
       refine X_op' rfl (A_stV rfl rfl rfl (V_t rfl) (K_t rfl) rfl rfl rfl rfl rfl rfl rfl) ?_
       refine xa rfl rfl rfl rfl ?_
       refine X_endS ?_
       try dsimp only [St.put, szA, List.length, Nat.reduceAdd]
       refine W_ret ?_
       refine Q_seqX ?_
       have hO9 : exP xs lo hi is = none := if_neg fun hin => by obtain ⟨h1, h2, h3, h4, _⟩ := hin; omega
       rw [hO9]
       exact end_R rfl (.c rfl (ld_mp rfl rfl rfl rfl rfl rfl) (.c rfl (ld_mp rfl rfl rfl rfl rfl rfl) (.t rfl .nil)))
      ·have khb4 := hb4; (try simp only [kb] at khb4)
       refine W_skip ?_
       refine Q_seq ?_
       refine W_seq ?_
       refine wsr ?_
       refine xm rfl rfl rfl rfl ?_
       refine xm rfl rfl rfl rfl ?_
       refine X_endS ?_
       try dsimp only [St.put, szA, List.length, Nat.reduceAdd]
       refine W_blk ?_
       refine W_loop (fun nn σ => ∃ i : Nat, (∀ j, j < i → inB lo hi j) ∧ σ = st11a xs lo hi is i ∧ nn + i = xs.length) (xs.length) ?_ ⟨0, (fun j h => by omega), by kernel_rfl, rfl⟩ (by omega)
       rintro nn _ ⟨i, hI, rfl, hnn⟩
       refine wsr ?_
       refine X_op' rfl (A_int rfl rfl rfl ⟨by decide, by decide⟩ rfl) ?_
       refine X_endS ?_
       try dsimp only [St.put, szA, List.length, Nat.reduceAdd]
       refine W_seq ?_
       refine W_condB rfl (fun hb5 => ?_) (fun hb5 => ?_)
       ·have khb5 := hb5; (try simp only [kb] at khb5)
        refine W_skip ?_
        refine Q_seq ?_
        refine W_seq ?_
        refine W_blk ?_
        refine wsr ?_
        refine xm rfl rfl rfl rfl ?_
        refine xa rfl rfl rfl rfl ?_
        refine X_endS ?_
        try dsimp only [St.put, szA, List.length, Nat.reduceAdd]
        refine wsr ?_
        refine xm rfl rfl rfl rfl ?_
        refine xm rfl rfl rfl rfl ?_
        refine X_op' rfl (A_ixA (0 : Int) rfl rfl rfl rfl rfl rfl rfl (by omega) (by omega) rfl rfl) ?_
        refine X_op' rfl (A_ld rfl rfl rfl (ld_ip1 rfl rfl rfl)) ?_
        refine xm rfl rfl rfl rfl ?_
        refine xm rfl rfl rfl rfl ?_
        refine X_op' rfl (A_ixA (0 : Int) rfl rfl rfl rfl rfl rfl rfl (by omega) (by omega) rfl rfl) ?_
        refine X_op' rfl (A_ld rfl rfl rfl (ld_ip1 rfl rfl rfl)) ?_
        refine X_op' rfl (A_min rfl rfl rfl rfl rfl (minI _ _)) ?_
        refine X_op' rfl (A_int rfl rfl rfl ⟨by decide, by decide⟩ rfl) ?_
        refine xm rfl rfl rfl rfl ?_
        refine X_both (d := 53) rfl (fun hb6 => ?_) (fun hb6 => ?_)
        ·have khb6 := hb6; (try simp only [kb] at khb6)
         refine X_no1 rfl rfl rfl hb6 ?_
         refine X_no1 rfl rfl rfl hb6 ?_
         refine X_no1 rfl rfl rfl hb6 ?_
         refine X_no1 rfl rfl rfl hb6 ?_
         refine X_no1 rfl rfl rfl hb6 ?_
         refine X_no1 rfl rfl rfl hb6 ?_
         refine X_no1 rfl rfl rfl hb6 ?_
         refine X_no1 rfl rfl rfl hb6 ?_
         refine X_no1 rfl rfl rfl hb6 ?_
         refine X_no1 rfl rfl rfl hb6 ?_
         refine X_op' rfl (A_pickT rfl rfl hb6 rfl) ?_
         refine X_endDS (by kernel_rfl) (by kernel_rfl) ?_
         try dsimp only [St.put, szA, List.length, Nat.reduceAdd]
         refine W_condT rfl rfl ?_
         refine wsr ?_
         refine X_op' rfl (A_build rfl rfl rfl .nil rfl rfl rfl) ?_
         refine X_op' rfl (A_build rfl rfl rfl .nil rfl rfl rfl) ?_
         refine X_op' rfl (A_stV rfl rfl rfl (V_t rfl) (K_t rfl) rfl rfl rfl rfl rfl rfl rfl) ?_
         refine X_op' rfl (A_stV rfl rfl rfl (V_t rfl) (K_t rfl) rfl rfl rfl rfl rfl rfl rfl) ?_
         refine xa rfl rfl rfl rfl ?_
         refine X_endS ?_
         try dsimp only [St.put, szA, List.length, Nat.reduceAdd]
         refine W_ret ?_
         refine Q_blkR ?_
         refine Q_seqX ?_
         refine Q_rndR ?_
         refine Q_blkR ?_
         refine Q_seqX ?_
         simp only [Int.toNat_natCast, Nat.zero_add] at *
         have hO9 : exP xs lo hi is = none := if_neg fun hin => by have h := hin.2.2.2.2 i (by omega); unfold inB at h; omega
         rw [hO9]
         exact end_R rfl (.c rfl (ld_mp rfl rfl rfl rfl rfl rfl) (.c rfl (ld_mp rfl rfl rfl rfl rfl rfl) (.t rfl .nil)))
        ·have khb6 := hb6; (try simp only [kb] at khb6)
         refine X_yes' rfl rfl rfl hb6 (A_mvT (.inl rfl) rfl rfl) ?_
         refine X_yes' rfl rfl rfl hb6 (A_mvT (.inl rfl) rfl rfl) ?_
         refine X_yes' rfl rfl rfl hb6 (A_ixA (0 : Int) rfl rfl rfl rfl rfl rfl rfl (by omega) (by omega) rfl rfl) ?_
         refine X_yes' rfl rfl rfl hb6 (A_ld rfl rfl rfl (ld_ip1 rfl rfl rfl)) ?_
         refine X_yes' rfl rfl rfl hb6 (A_mvT (.inl rfl) rfl rfl) ?_
         refine X_yes' rfl rfl rfl hb6 (A_mvT (.inl rfl) rfl rfl) ?_
         refine X_yes' rfl rfl rfl hb6 (A_ixA (0 : Int) rfl rfl rfl rfl rfl rfl rfl (by omega) (by omega) rfl rfl) ?_
         refine X_yes' rfl rfl rfl hb6 (A_ld rfl rfl rfl (ld_ip1 rfl rfl rfl)) ?_
         refine X_yes' rfl rfl rfl hb6 (A_max rfl rfl rfl rfl rfl (maxI _ _)) ?_
         refine X_yes' rfl rfl rfl hb6 (A_int rfl rfl rfl ⟨by decide, by decide⟩ rfl) ?_
         refine X_op' rfl (A_pickF rfl rfl hb6 rfl) ?_
         refine X_endDS (by kernel_rfl) (by kernel_rfl) ?_
         try dsimp only [St.put, szA, List.length, Nat.reduceAdd]
         refine W_condB rfl (fun hb7 => ?_) (fun hb7 => ?_)
         ·have khb7 := hb7; (try simp only [kb] at khb7)
          refine wsr ?_
          refine X_op' rfl (A_build rfl rfl rfl .nil rfl rfl rfl) ?_
          refine X_op' rfl (A_build rfl rfl rfl .nil rfl rfl rfl) ?_
          refine X_op' rfl (A_stV rfl rfl rfl (V_t rfl) (K_t rfl) rfl rfl rfl rfl rfl rfl rfl) ?_
          refine X_op' rfl (A_stV rfl rfl rfl (V_t rfl) (K_t rfl) rfl rfl rfl rfl rfl rfl rfl) ?_
          refine xa rfl rfl rfl rfl ?_
          refine X_endS ?_
          try dsimp only [St.put, szA, List.length, Nat.reduceAdd]
          refine W_ret ?_
          refine Q_blkR ?_
          refine Q_seqX ?_
          refine Q_rndR ?_
          refine Q_blkR ?_
          refine Q_seqX ?_
          simp only [Int.toNat_natCast, Nat.zero_add] at *
          have hO9 : exP xs lo hi is = none := if_neg fun hin => by have h := hin.2.2.2.2 i (by omega); unfold inB at h; omega
          rw [hO9]
          exact end_R rfl (.c rfl (ld_mp rfl rfl rfl rfl rfl rfl) (.c rfl (ld_mp rfl rfl rfl rfl rfl rfl) (.t rfl .nil)))
         ·have khb7 := hb7; (try simp only [kb] at khb7)
          refine W_skip ?_
          refine Q_blkN ?_
          refine Q_seq ?_
          refine W_reg ?_
          refine X_op' rfl (A_int rfl rfl rfl ⟨by decide, by decide⟩ (addI (by omega))) ?_
          refine xm rfl rfl rfl rfl ?_
          refine X_end ?_
          try dsimp only [St.put, szA, List.length, Nat.reduceAdd]
          simp only [Int.toNat_natCast, Nat.zero_add] at *
          exact ⟨nn - 1, by omega, i + 1, fun j hj => if e : j = i then (by subst e; unfold inB; omega) else hI j (by omega), Eq.trans (b := st11a xs lo hi is ((i : Int) + 1)) (by kernel_rfl) rfl, by omega⟩
       ·have khb5 := hb5; (try simp only [kb] at khb5)
        refine W_exit ?_
        refine Q_seqX ?_
        refine Q_rndX ?_
        refine Q_blkE ?_
        refine Q_seq ?_
        refine wsr ?_
        obtain rfl : i = xs.length := by omega
        have hin : inE xs lo hi is := ⟨by omega, by omega, by omega, by omega, hI⟩
        have hok := ok35_of w hn0 hn hin
        clear khb1 hb1 hnn
        refine xm rfl rfl rfl rfl ?_
        refine xm rfl rfl rfl rfl ?_
        refine xm rfl rfl rfl rfl ?_
        refine xm rfl rfl rfl rfl ?_
        refine X_op' rfl (A_callV rfl rfl rfl rfl (.cons (V_t rfl) (K_t rfl) (.cons (V_t rfl) (K_t rfl) (.cons (V_t rfl) (K_t rfl) (.cons (V_t rfl) (K_t rfl) .nil)))) (cc35 hok)) ?_
        generalize hO1 : gP (tF xs) (iF lo) (iF hi) (iF is) xs.length (ordQ xs) = O1
        refine X_op' rfl (A_mvU (.inl rfl) rfl) ?_
        refine X_op' rfl (A_ext rfl rfl rfl) ?_
        refine X_op' rfl (A_ext rfl rfl rfl) ?_
        refine X_op' rfl (A_stV rfl rfl rfl (V_t rfl) (K_t rfl) rfl rfl rfl rfl rfl rfl rfl) ?_
        refine xa rfl rfl rfl rfl ?_
        refine X_endS ?_
        try dsimp only [St.put, szA, List.length, Nat.reduceAdd]
        refine W_seq ?_
        refine wsr ?_
        refine xm rfl rfl rfl rfl ?_
        refine X_op' rfl (A_not rfl rfl) ?_
        refine X_endS ?_
        try dsimp only [St.put, szA, List.length, Nat.reduceAdd]
        refine W_condB rfl (fun hb9 => ?_) (fun hb9 => ?_)
        ·have khb9 := hb9; (try simp only [kb] at khb9)
         refine wsr ?_
         refine X_op' rfl (A_build rfl rfl rfl .nil rfl rfl rfl) ?_
         refine X_op' rfl (A_build rfl rfl rfl .nil rfl rfl rfl) ?_
         refine X_op' rfl (A_stV rfl rfl rfl (V_t rfl) (K_t rfl) rfl rfl rfl rfl rfl rfl rfl) ?_
         refine X_op' rfl (A_stV rfl rfl rfl (V_t rfl) (K_t rfl) rfl rfl rfl rfl rfl rfl rfl) ?_
         refine xa rfl rfl rfl rfl ?_
         refine X_endS ?_
         try dsimp only [St.put, szA, List.length, Nat.reduceAdd]
         refine W_ret ?_
         refine Q_seqX ?_
         have hO9 : exP xs lo hi is = none := by
           have h1 : O1 = none := by cases O1 with
             | none => rfl
             | some q => simp at khb9
           unfold exP
           rw [if_pos hin, hO1, h1]
         rw [hO9]
         exact end_R rfl (.c rfl (ld_mp rfl rfl rfl rfl rfl rfl) (.c rfl (ld_mp rfl rfl rfl rfl rfl rfl) (.t rfl .nil)))
        ·have khb9 := hb9; (try simp only [kb] at khb9)
         refine W_skip ?_
         refine Q_seq ?_
         refine wsr ?_
         refine xm rfl rfl rfl rfl ?_
         refine X_op' rfl (A_make (j := xs.length) rfl rfl rfl rfl rfl rfl (by omega) (by first | omega | (simp only [intE, slE, boolE, integerE, rationalE]; omega)) (by omega)) ?_
         refine X_op' rfl (A_mvM (.inr rfl) rfl) ?_
         refine X_endS ?_
         try dsimp only [St.put, szA, List.length, Nat.reduceAdd]
         refine W_seq ?_
         refine wsr ?_
         refine xm rfl rfl rfl rfl ?_
         refine xm rfl rfl rfl rfl ?_
         refine X_endS ?_
         try dsimp only [St.put, szA, List.length, Nat.reduceAdd]
         refine W_blk ?_
         refine W_loop (fun nn σ => ∃ (i : Nat) (L : List Rr), L.length = xs.length ∧ L = negL xs i ∧ σ = st11b xs lo hi is O1.isSome O1 L i ∧ nn + i = xs.length) (xs.length) ?_ ⟨0, negL xs 0, negL_len _ _ (Nat.zero_le _), rfl, (by simp only [st11b, negL, List.take_zero, List.map_nil, List.nil_append, List.map_replicate]; rfl), rfl⟩ (by omega)
         rintro nn _ ⟨i, L, hLl, hL, rfl, hnn⟩
         refine wsr ?_
         refine X_op' rfl (A_int rfl rfl rfl ⟨by decide, by decide⟩ rfl) ?_
         refine X_endS ?_
         try dsimp only [St.put, szA, List.length, Nat.reduceAdd]
         refine W_seq ?_
         refine W_condB rfl (fun hb10 => ?_) (fun hb10 => ?_)
         ·have khb10 := hb10; (try simp only [kb] at khb10)
          refine W_skip ?_
          refine Q_seq ?_
          refine W_seq ?_
          refine W_blk ?_
          refine wsr ?_
          refine xm rfl rfl rfl rfl ?_
          refine xa rfl rfl rfl rfl ?_
          refine X_endS ?_
          try dsimp only [St.put, szA, List.length, Nat.reduceAdd]
          refine W_reg ?_
          refine X_op' rfl (A_mvM (.inl rfl) rfl) ?_
          refine xm rfl rfl rfl rfl ?_
          refine xm rfl rfl rfl rfl ?_
          refine xm rfl rfl rfl rfl ?_
          refine X_op' rfl (A_ixA r0 rfl rfl rfl rfl rfl rfl rfl (by omega) (by omega) rfl rfl) ?_
          refine X_op' rfl (A_ld rfl rfl rfl (ld_ip3 rfl rfl rfl rfl rfl)) ?_
          refine X_op' rfl (A_callV rfl rfl rfl rfl (.cons (V_t rfl) (K_t rfl) .nil) (c36 (getD_ok w _) hn0 (by omega))) ?_
          refine X_op' rfl (A_ixO rfl rfl rfl rfl rfl rfl rfl (by omega) (by omega)) ?_
          refine X_op' rfl (A_stR r0 rfl rfl rfl (V_t rfl) (K_t rfl) rfl (show tc (-(xs.getD ((i : Int)).toNat r0).v) = Rr.t (negR (xs.getD ((i : Int)).toNat r0)) from rfl) (by first | omega | (simp only [List.length_set]; omega)) rfl rfl rfl rfl rfl rfl) ?_
          refine X_end ?_
          try dsimp only [St.put, szA, List.length, Nat.reduceAdd]
          refine Q_blkN ?_
          refine Q_seq ?_
          refine W_reg ?_
          refine X_op' rfl (A_int rfl rfl rfl ⟨by decide, by decide⟩ (addI (by omega))) ?_
          refine xm rfl rfl rfl rfl ?_
          refine X_end ?_
          try dsimp only [St.put, szA, List.length, Nat.reduceAdd]
          exact ⟨nn - 1, by omega, i + 1, L.set (0 + ((i : Int)).toNat) (negR (xs.getD ((i : Int)).toNat r0)), by rw [List.length_set]; exact hLl, by rw [hL, show 0 + ((i : Int)).toNat = i by omega, show ((i : Int)).toNat = i by omega, negL_set _ _ (by omega)], Eq.trans (b := st11b xs lo hi is O1.isSome O1 (L.set (0 + ((i : Int)).toNat) (negR (xs.getD ((i : Int)).toNat r0))) ((i : Int) + 1)) (by kernel_rfl) rfl, by omega⟩
         ·have khb10 := hb10; (try simp only [kb] at khb10)
          refine W_exit ?_
          refine Q_seqX ?_
          refine Q_rndX ?_
          refine Q_blkE ?_
          refine Q_seq ?_
          refine wsr ?_
          obtain rfl : i = xs.length := by omega
          obtain rfl : L = xs.map negR := by rw [hL, negL_all]
          refine X_op' rfl (A_mvM (.inl rfl) rfl) ?_
          refine xm rfl rfl rfl rfl ?_
          refine xm rfl rfl rfl rfl ?_
          refine xm rfl rfl rfl rfl ?_
          refine X_op' rfl (A_callV rfl rfl rfl rfl (.cons (V_m rfl rfl rfl (by rw [List.length_map]; exact hLl)) (K_m rfl) (.cons (V_t rfl) (K_t rfl) (.cons (V_t rfl) (K_t rfl) (.cons (V_t rfl) (K_t rfl) .nil)))) (cc35 (ok35_neg hok))) ?_
          generalize hO2 : gP (tF (xs.map negR)) (iF lo) (iF hi) (iF is) (xs.map negR).length (ordQ (xs.map negR)) = O2
          refine X_op' rfl (A_mvU (.inl rfl) rfl) ?_
          refine X_op' rfl (A_ext rfl rfl rfl) ?_
          refine X_op' rfl (A_ext rfl rfl rfl) ?_
          refine X_op' rfl (A_stV rfl rfl rfl (V_t rfl) (K_t rfl) rfl rfl rfl rfl rfl rfl rfl) ?_
          refine X_endS ?_
          try dsimp only [St.put, szA, List.length, Nat.reduceAdd]
          refine wsr ?_
          refine X_op' rfl (A_ld rfl rfl rfl (ld_mp rfl rfl rfl rfl rfl rfl)) ?_
          refine X_op' rfl (A_callV rfl rfl rfl rfl (.cons (V_t rfl) (K_t rfl) .nil) ((c36 (Rw_o fun q hq => gP35_fit (ok35_neg hok) (hO2.trans hq)) (by omega) (by omega)).trans (show some (Ret.ts [tc (-(rv (oB O2) (oL O2) (oK O2)))]) = some (Ret.ts [tc (-(O2.getD 0))]) by rw [rv_o]))) ?_
          refine X_op' rfl (A_ld rfl rfl rfl (ld_mp rfl rfl rfl rfl rfl rfl)) ?_
          refine X_op' rfl (A_stV rfl rfl rfl (V_t rfl) (K_t rfl) rfl rfl rfl rfl rfl rfl rfl) ?_
          refine X_op' rfl (A_stV rfl rfl rfl (V_t rfl) (K_t rfl) rfl rfl rfl rfl rfl rfl rfl) ?_
          refine xa rfl rfl rfl rfl ?_
          refine X_endDS (by kernel_rfl) (by kernel_rfl) ?_
          try dsimp only [St.put, szA, List.length, Nat.reduceAdd]
          refine W_ret ?_
          have hO9 : exP xs lo hi is = some (-(O2.getD 0), O1.getD 0) := by
            unfold exP
            rw [if_pos hin, hO1, hO2]
            cases O1 with
            | none => simp at khb9
            | some q => rfl
          rw [hO9]
          obtain ⟨q, rfl⟩ : ∃ q, O1 = some q := by
            cases O1 with
            | none => simp at khb9
            | some q => exact ⟨q, rfl⟩
          exact end_R rfl (.c rfl (ld_mp rfl rfl rfl rfl rfl rfl) (.c rfl (ld_mp rfl rfl rfl rfl rfl rfl) (.t rfl .nil)))
  exact (if_pos rfl).trans (run _ (by simp only [fu11]; omega) _ rfl)
end Go.Ev.S
/- The extreme values: what they are. -/
set_option linter.unusedVariables false
set_option linter.unusedSimpArgs false
set_option maxRecDepth 100000
namespace Go.Ev.S
open Go Go.Ev Go.Proofs NumA
theorem ordQ_pw (xs : List Rr) : (ordQ xs).Pairwise fun a b => tF xs b ≤ tF xs a := by
  have h : (ordQ xs).Pairwise fun a b => (!ltO xs b a) = true := by
    unfold ordQ
    refine List.pairwise_mergeSort (fun a b c h1 h2 => ?_) (fun a b => ?_) _
    · simp only [Bool.not_eq_true'] at *
      exact ltO_ntrans xs c b a h2 h1
    · cases h1 : ltO xs b a with
      | false => rfl
      | true =>
        cases h2 : ltO xs a b with
        | false => rfl
        | true =>
          have := ltO_trans xs b a b h1 h2
          rw [ltO_irrefl] at this; cases this
  refine h.imp fun {a b} hab => ?_
  simp only [Bool.not_eq_true'] at hab
  have hn : ¬ ltO xs b a = true := by simp [hab]
  rw [ltO_iff] at hn
  exact Rat.not_lt.1 fun hlt => hn (.inl hlt)
theorem map_negR_tF (xs : List Rr) {i : Nat} (h : i < xs.length) : tF (xs.map negR) i = - tF xs i := by
  unfold tF
  rw [show (xs.map negR).getD i r0 = negR (xs.getD i r0) by
    rw [List.getD_eq_getElem?_getD, List.getD_eq_getElem?_getD, List.getElem?_map, List.getElem?_eq_getElem h]; rfl, negR_v]
/-- The values, by points that are known to be best. -/
theorem exP_val {xs : List Rr} {lo hi is : List Int} (h : inE xs lo hi is) {y z : Nat → Int} (hy : Feas (iF lo) (iF hi) (iF is) xs.length y) (oy : Opt (tF xs) (iF lo) (iF hi) (iF is) xs.length y) (hz : Feas (iF lo) (iF hi) (iF is) xs.length z) (oz : Opt (tF (xs.map negR)) (iF lo) (iF hi) (iF is) xs.length z) :
    exP xs lo hi is = some (-(valQ (tF (xs.map negR)) xs.length z), valQ (tF xs) xs.length y) := by
  unfold exP
  rw [if_pos h, List.length_map]
  obtain ⟨a1, a2⟩ := gP_spec (t := tF xs) (lo := iF lo) (hi := iF hi) (isl := iF is) (ordQ_perm xs) (ordQ_pw xs)
  obtain ⟨b1, b2⟩ := gP_spec (t := tF (xs.map negR)) (lo := iF lo) (hi := iF hi) (isl := iF is) (n := xs.length) (by have := ordQ_perm (xs.map negR); rwa [List.length_map] at this) (ordQ_pw (xs.map negR))
  cases ha : gP (tF xs) (iF lo) (iF hi) (iF is) xs.length (ordQ xs) with
  | none => exact absurd ⟨y, hy⟩ (a1 ha)
  | some v =>
    obtain ⟨y', hy', oy', rfl⟩ := a2 v ha
    cases hb : gP (tF (xs.map negR)) (iF lo) (iF hi) (iF is) xs.length (ordQ (xs.map negR)) with
    | none => exact absurd ⟨y, hy⟩ (b1 hb)
    | some v =>
      obtain ⟨z', hz', oz', rfl⟩ := b2 v hb
      simp only [Option.getD_some]
      rw [opt_unique _ _ _ _ _ hy' oy' hy oy, opt_unique _ _ _ _ _ hz' oz' hz oz]
theorem exP_none {xs : List Rr} {lo hi is : List Int} (h : ¬ ∃ y, Feas (iF lo) (iF hi) (iF is) xs.length y) : exP xs lo hi is = none := by
  unfold exP
  split
  · obtain ⟨a1, a2⟩ := gP_spec (t := tF xs) (lo := iF lo) (hi := iF hi) (isl := iF is) (ordQ_perm xs) (ordQ_pw xs)
    cases ha : gP (tF xs) (iF lo) (iF hi) (iF is) xs.length (ordQ xs) with
    | none => rfl
    | some v => obtain ⟨y, hy, _⟩ := a2 v ha; exact absurd ⟨y, hy⟩ h
  · rfl
/-- Every point of the box lies between the two. -/
theorem exP_inside {xs : List Rr} {lo hi is : List Int} (h : inE xs lo hi is) {y : Nat → Int} (hy : Feas (iF lo) (iF hi) (iF is) xs.length y) :
    ∃ le mo, exP xs lo hi is = some (le, mo) ∧ le ≤ valQ (tF xs) xs.length y ∧ valQ (tF xs) xs.length y ≤ mo := by
  obtain ⟨a1, a2⟩ := gP_spec (t := tF xs) (lo := iF lo) (hi := iF hi) (isl := iF is) (ordQ_perm xs) (ordQ_pw xs)
  obtain ⟨b1, b2⟩ := gP_spec (t := tF (xs.map negR)) (lo := iF lo) (hi := iF hi) (isl := iF is) (n := xs.length) (by have := ordQ_perm (xs.map negR); rwa [List.length_map] at this) (ordQ_pw (xs.map negR))
  cases ha : gP (tF xs) (iF lo) (iF hi) (iF is) xs.length (ordQ xs) with
  | none => exact absurd ⟨y, hy⟩ (a1 ha)
  | some v =>
    obtain ⟨y', hy', oy', rfl⟩ := a2 v ha
    cases hb : gP (tF (xs.map negR)) (iF lo) (iF hi) (iF is) xs.length (ordQ (xs.map negR)) with
    | none => exact absurd ⟨y, hy⟩ (b1 hb)
    | some v =>
      obtain ⟨z', hz', oz', rfl⟩ := b2 v hb
      refine ⟨-(valQ (tF (xs.map negR)) xs.length z'), valQ (tF xs) xs.length y', ?_, ?_, opt_le _ _ _ _ _ hy' oy' hy⟩
      · unfold exP
        rw [if_pos h, List.length_map, ha, hb]; rfl
      · have h1 := opt_le _ _ _ _ _ hz' oz' hy
        have h2 : valQ (tF (xs.map negR)) xs.length y = - valQ (tF xs) xs.length y := by
          unfold valQ
          have h3 : sumQ xs.length (fun i => tF (xs.map negR) i * (y i : Rat)) = sumQ xs.length (fun i => -1 * (tF xs i * (y i : Rat))) := sumQ_congr fun i hi' => by rw [map_negR_tF xs hi']; grind
          rw [h3, sumQ_mul]; grind
        rw [h2] at h1
        grind
theorem exP_fit {n : Nat} {xs : List Rr} {lo hi is : List Int} (w : ∀ x ∈ xs, x.ok n) (hn0 : 0 < n) (hn : n ≤ 1000000) {le mo : Rat} (h : exP xs lo hi is = some (le, mo)) : Fit (1 + 64 * (n + 2)) le ∧ Fit (1 + 64 * (n + 2)) mo := by
  unfold exP at h
  split at h
  · rename_i hin
    have hok := ok35_of w hn0 hn hin
    split at h
    · cases h
    · rename_i v hv
      simp only [Option.some.injEq, Prod.mk.injEq] at h
      obtain ⟨rfl, rfl⟩ := h
      refine ⟨fit_neg ?_, gP35_fit hok hv⟩
      cases hb : gP (tF (xs.map negR)) (iF lo) (iF hi) (iF is) (xs.map negR).length (ordQ (xs.map negR)) with
      | none => exact fit_zero (by omega)
      | some v => exact gP35_fit (ok35_neg hok) hb
  · cases h
/-- A number as a record. -/
def cR (q : Rat) : Rr := ⟨decide (q.num < 0), en (q.num.natAbs : Int), en (q.den : Int)⟩
theorem cR_v (q : Rat) : (cR q).v = q := tc_rv q
theorem cR_ok {n : Nat} {q : Rat} (h : Fit n q) : (cR q).ok n := Rw.can h
end Go.Ev.S
