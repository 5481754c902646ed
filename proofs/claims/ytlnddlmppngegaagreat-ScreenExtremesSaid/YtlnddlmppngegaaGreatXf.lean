/- For every input the law ScreenExtremes returns true, and its arguments read as before: the least and the greatest value of a linear function over a balanced box are those of the reference. No conditions. (Texts joined by program.) -/
import Derived.Test.YtlnddlmppngegaaGreatRows
import Derived.ProofKit
import Derived.OpenShut
import Derived.ChangeOld
import Derived.Below
import Derived.Carry
import Derived.SizedLaws
import Derived.Test.YtlnddlmppngegaaGreatXe
/- The screen's extreme values. -/
set_option linter.unusedVariables false
set_option linter.unusedSimpArgs false
set_option maxRecDepth 100000
namespace Go.Ev.S
open Go Go.Ev Go.Proofs NumA
/-- An answer, or nothing. -/
def oB : Option Rat → Bool
  | none => false
  | some q => decide (q.num < 0)
def oL : Option Rat → List Int
  | none => []
  | some q => en (q.num.natAbs : Int)
def oK : Option Rat → List Int
  | none => []
  | some q => en (q.den : Int)
abbrev oT (o : Option Rat) : T := tq (oB o) (oL o) (oK o)
theorem rv_o (o : Option Rat) : rv (oB o) (oL o) (oK o) = o.getD 0 := by
  cases o with
  | none => simp [oB, oL, oK, rv, nv, Rat.divInt_zero]
  | some q => exact tc_rv q
theorem Rw_o {M : Nat} {o : Option Rat} (h : ∀ q, o = some q → Fit M q) : Rw M (oB o) (oL o) (oK o) := by
  cases o with
  | none => exact ⟨U32_nil, U32_nil, by simp [oL], by simp [oK]⟩
  | some q => exact Rw.can (h q rfl)
theorem retO_eq (o : Option Rat) : retO o = .ts [oT o, .v (.bool o.isSome)] := by cases o <;> rfl
noncomputable def gg35 : List T → Option Ret := fun ts => if ts.length = 4 then g35 ts else none
theorem ss35 : SpecOk Tryz.prog 35 (viewSpec gg35) := s35
theorem cc35 {n : Nat} {xs : List Rr} {lo hi is : List Int} (hok : Ok35 n xs lo hi is) : gg35 [tl xs, ti lo, ti hi, ti is] = some (.ts [oT (gP (tF xs) (iF lo) (iF hi) (iF is) xs.length (ordQ xs)), .v (.bool (gP (tF xs) (iF lo) (iF hi) (iF is) xs.length (ordQ xs)).isSome)]) := by
  rw [← retO_eq]; exact (if_pos rfl).trans (c35 hok)
/-- The other way round. -/
def negR (x : Rr) : Rr := ⟨decide ((-x.v).num < 0), en ((-x.v).num.natAbs : Int), en ((-x.v).den : Int)⟩
theorem negR_v (x : Rr) : (negR x).v = -x.v := tc_rv _
theorem negR_ok {n : Nat} {x : Rr} (h : x.ok n) (hn : 0 < n) : (negR x).ok n := Rw.can (fit_neg (Rw.fit h hn))
theorem r0_neg : negR r0 = ⟨false, [], en 1⟩ := by
  have h : -r0.v = 0 := by
    have : r0.v = 0 := by simp [Rr.v, r0, rv, nv, Rat.divInt_zero]
    rw [this]; simp
  unfold negR
  rw [h]
  simp [en_zero]
def inB (lo hi : List Int) (i : Nat) : Prop := (-1073741824 ≤ lo.getD i 0 ∧ lo.getD i 0 ≤ 1073741824) ∧ -1073741824 ≤ hi.getD i 0 ∧ hi.getD i 0 ≤ 1073741824
instance (lo hi : List Int) (i : Nat) : Decidable (inB lo hi i) := inferInstanceAs (Decidable ((_ ∧ _) ∧ _ ∧ _))
/-- What both ask of the arguments. -/
def inE (xs : List Rr) (lo hi is : List Int) : Prop := xs.length ≤ 32 ∧ lo.length = xs.length ∧ hi.length = xs.length ∧ is.length = xs.length ∧ ∀ i, i < xs.length → inB lo hi i
instance (xs : List Rr) (lo hi is : List Int) : Decidable (inE xs lo hi is) := inferInstanceAs (Decidable (_ ∧ _ ∧ _ ∧ _ ∧ _))
theorem Bd_lo {lo hi : List Int} {N : Nat} (h : ∀ i, i < N → inB lo hi i) (hl : lo.length = N) : Bd lo := fun i => by
  by_cases hi' : i < N
  · exact (h i hi').1
  · rw [List.getD_eq_getElem?_getD, List.getElem?_eq_none (by omega)]; simp
theorem Bd_hi {lo hi : List Int} {N : Nat} (h : ∀ i, i < N → inB lo hi i) (hl : hi.length = N) : Bd hi := fun i => by
  by_cases hi' : i < N
  · exact (h i hi').2
  · rw [List.getD_eq_getElem?_getD, List.getElem?_eq_none (by omega)]; simp
theorem ok35_of {n : Nat} {xs : List Rr} {lo hi is : List Int} (w : ∀ x ∈ xs, x.ok n) (hn0 : 0 < n) (hn : n ≤ 1000000) (h : inE xs lo hi is) : Ok35 n xs lo hi is :=
  ⟨w, hn0, hn, h.1, h.2.1, h.2.2.1, h.2.2.2.1, Bd_lo h.2.2.2.2 h.2.1, Bd_hi h.2.2.2.2 h.2.2.1⟩
theorem ok35_neg {n : Nat} {xs : List Rr} {lo hi is : List Int} (h : Ok35 n xs lo hi is) : Ok35 n (xs.map negR) lo hi is :=
  ⟨fun x hx => by obtain ⟨y, hy, rfl⟩ := List.mem_map.1 hx; exact negR_ok (h.w y hy) h.hn0, h.hn0, h.hn, by rw [List.length_map]; exact h.hN, by rw [List.length_map]; exact h.l1, by rw [List.length_map]; exact h.l2, by rw [List.length_map]; exact h.l3, h.b1, h.b2⟩
theorem gP35_fit {n : Nat} {xs : List Rr} {lo hi is : List Int} (h : Ok35 n xs lo hi is) {q : Rat} (hq : gP (tF xs) (iF lo) (iF hi) (iF is) xs.length (ordQ xs) = some q) : Fit (1 + 64 * (n + 2)) q :=
  gP_fit (fun i => Rw.fit (getD_ok h.w _) h.hn0) h.b1 h.b2 h.hN (by rw [(ordQ_perm xs).length_eq, List.length_range]) hq
/-- What the program answers. -/
def exP (xs : List Rr) (lo hi is : List Int) : Option (Rat × Rat) :=
  if inE xs lo hi is then
    match gP (tF xs) (iF lo) (iF hi) (iF is) xs.length (ordQ xs) with
    | none => none
    | some most => some (-((gP (tF (xs.map negR)) (iF lo) (iF hi) (iF is) (xs.map negR).length (ordQ (xs.map negR))).getD 0), most)
  else none
def retX (o : Option (Rat × Rat)) : Ret := .ts [oT (o.map (·.1)), oT (o.map (·.2)), .v (.bool o.isSome)]
def negL (xs : List Rr) (i : Nat) : List Rr := (xs.take i).map negR ++ List.replicate (xs.length - i) r0
theorem negL_len (xs : List Rr) (i : Nat) (h : i ≤ xs.length) : (negL xs i).length = xs.length := by simp [negL]; omega
theorem negL_all (xs : List Rr) : negL xs xs.length = xs.map negR := by simp [negL]
theorem negL_set (xs : List Rr) (i : Nat) (h : i < xs.length) : (negL xs i).set i (negR (xs.getD i r0)) = negL xs (i + 1) := by
  unfold negL
  rw [List.set_append_right i _ (by simp; omega), List.length_map, List.length_take, Nat.min_eq_left (by omega), Nat.sub_self, take_succ_r xs i h, List.map_append, List.append_assoc]
  congr 1
  rw [show xs.length - i = (xs.length - (i + 1)) + 1 by omega, List.replicate_succ]
  rfl
theorem maxI (a b : Int) : (if a < b then b else a) = max a b := by omega
def st11a (xs : List Rr) (lo hi is : List Int) (i : Int) : St := { tm := [(0, .t (tl xs)), (1, .t (ti lo)), (2, .t (ti hi)), (3, .t (ti is)), (8, .mp 0 3 0 0), (9, .mp 1 3 0 0), (10, .t (.v (.bool false))), (11, .t (ii ((xs.map Rr.t).length : Int))), (39, .t (ii ((xs.map Rr.t).length : Int))), (40, .t (ii i))], mm := [(0, some ⟨30, 3, [zT]⟩), (1, some ⟨30, 3, [zT]⟩)], nx := 2 }
def st11b (xs : List Rr) (lo hi is : List Int) (b : Bool) (o : Option Rat) (L : List Rr) (i : Int) : St := { tm := [(0, .t (tl xs)), (1, .t (ti lo)), (2, .t (ti hi)), (3, .t (ti is)), (8, .mp 0 3 0 0), (9, .mp 1 3 0 0), (10, .t (.v (.bool b))), (13, .ms 2 3 0 xs.length), (82, .t (ii ((xs.map Rr.t).length : Int))), (83, .t (ii i))], mm := [(0, some ⟨30, 3, [zT]⟩), (1, some ⟨30, 3, [oT o]⟩), (2, some ⟨30, 3, L.map Rr.t⟩)], nx := 3 }
def keep11 : Nat → List Nat := fun b => if b = 0 then [0, 1, 2, 3, 8, 9, 10, 11, 39, 40] else [0, 1, 2, 3, 8, 9, 10, 13, 82, 83]
noncomputable def sp11 : Nat → Option Spec := (more 35 (viewSpec gg35) (more 36 (viewSpec g36) noneS))
theorem hs11 : ∀ f s, sp11 f = some s → SpecOk Tryz.prog f s := (more_ok ss35 (more_ok s36 none_ok))
noncomputable def fu11 : List T → Nat := fun _ => 4398046511104
noncomputable def g11 : List T → Option Ret := fun ts => if ts.length = 4 then pureRun ty sp11 keep11 (fu11 ts) false Tryz.f11.results (Tryz.f11.body.getD .skip) ts else none
theorem s11 : SpecOk Tryz.prog 11 (viewSpec g11) := pure_ok mixed ty_ok hs11 Tryz.func11 rfl (by kernel_rfl) (enters_of Tryz.func11 (by kernel_rfl) rfl) keep11 fu11 false 4 (by decide)
set_option maxHeartbeats 4000000 in
theorem c11 {n : Nat} {xs : List Rr} {lo hi is : List Int} (w : ∀ x ∈ xs, x.ok n) (hn0 : 0 < n) (hn : n ≤ 1000000) (hx : xs.length ≤ 1000000) (g1 : lo.length ≤ 1000000) (g2 : hi.length ≤ 1000000) (g3 : is.length ≤ 1000000) : g11 [tl xs, ti lo, ti hi, ti is] = some (retX (exP xs lo hi is)) := by
  have run : ∀ (fuel : Nat) (hf : 1099511627776 < fuel) (c : Code) (hc : Tryz.f11.body = some c), pureRun ty sp11 keep11 fuel false Tryz.f11.results c [tl xs, ti lo, ti hi, ti is] = some (retX (exP xs lo hi is)) := by
   intro fuel hf c hc
   injection hc with hc
   subst hc
   have el : (xs.map Rr.t).length = xs.length := List.length_map _
   have e1 : (lo.map ii).length = lo.length := List.length_map _
   have e2 : (hi.map ii).length = hi.length := List.length_map _
   have e3 : (is.map ii).length = is.length := List.length_map _
   refine pure_wc ?_
   refine wsr ?_
   refine X_op' rfl (A_alloc rfl rfl) ?_
   refine X_op' rfl (A_alloc rfl rfl) ?_
   refine xa rfl rfl rfl rfl ?_
   refine X_endS ?_
   try dsimp only [St.put, szA, List.length, Nat.reduceAdd]
   refine wsr ?_
   refine xm rfl rfl rfl rfl ?_
   refine X_op' rfl (A_lenT rfl rfl rfl rfl rfl rfl rfl) ?_
   refine xa rfl rfl rfl rfl ?_
   refine X_endS ?_
   try dsimp only [St.put, szA, List.length, Nat.reduceAdd]
   refine W_seq ?_
   refine wsr ?_
   refine xm rfl rfl rfl rfl ?_
   refine X_op' rfl (A_int rfl rfl rfl ⟨by decide, by decide⟩ rfl) ?_
   refine xm rfl rfl rfl rfl ?_
   refine X_both (d := 19) rfl (fun hb1 => ?_) (fun hb1 => ?_)
   ·have khb1 := hb1; (try simp only [kb] at khb1)
    refine X_no1 rfl rfl rfl hb1 ?_
    refine X_no1 rfl rfl rfl hb1 ?_
    refine X_no1 rfl rfl rfl hb1 ?_
    refine X_no1 rfl rfl rfl hb1 ?_
    refine X_op' rfl (A_pickT rfl rfl hb1 rfl) ?_
    refine xm rfl rfl rfl rfl ?_
    refine X_no1 rfl rfl rfl rfl ?_
    refine X_no1 rfl rfl rfl rfl ?_
    refine X_no1 rfl rfl rfl rfl ?_
    refine X_no1 rfl rfl rfl rfl ?_
    refine X_op' rfl (A_pickT rfl rfl rfl rfl) ?_
    refine xm rfl rfl rfl rfl ?_
    refine X_no1 rfl rfl rfl rfl ?_
    refine X_no1 rfl rfl rfl rfl ?_
    refine X_no1 rfl rfl rfl rfl ?_
    refine X_no1 rfl rfl rfl rfl ?_
    refine X_op' rfl (A_pickT rfl rfl rfl rfl) ?_
    refine X_endS ?_
    try dsimp only [St.put, szA, List.length, Nat.reduceAdd]
    refine W_condT rfl rfl ?_
    refine wsr ?_
    refine X_op' rfl (A_build rfl rfl rfl .nil rfl rfl rfl) ?_
    refine X_op' rfl (A_build rfl rfl rfl .nil rfl rfl rfl) ?_
    refine X_op' rfl (A_stV rfl rfl rfl (V_t rfl) (K_t rfl) rfl rfl rfl rfl rfl rfl rfl) ?_
    refine X_op' rfl (A_stV rfl rfl rfl (V_t rfl) (K_t rfl) rfl rfl rfl rfl rfl rfl rfl) ?_
    refine xa rfl rfl rfl rfl ?_
    refine X_endS ?_
    try dsimp only [St.put, szA, List.length, Nat.reduceAdd]
    refine W_ret ?_
    refine Q_seqX ?_
    have hO9 : exP xs lo hi is = none := if_neg fun hin => by obtain ⟨h1, h2, h3, h4, _⟩ := hin; omega
    rw [hO9]
    exact end_R rfl (.c rfl (ld_mp rfl rfl rfl rfl rfl rfl) (.c rfl (ld_mp rfl rfl rfl rfl rfl rfl) (.t rfl .nil)))
   ·have khb1 := hb1; (try simp only [kb] at khb1)
    refine X_yes' rfl rfl rfl hb1 (A_mvT (.inl rfl) rfl rfl) ?_
    refine X_yes' rfl rfl rfl hb1 (A_lenT rfl rfl rfl rfl rfl rfl rfl) ?_
    refine X_yes' rfl rfl rfl hb1 (A_mvT (.inl rfl) rfl rfl) ?_
    refine X_yes' rfl rfl rfl hb1 (A_int rfl rfl rfl ⟨by decide, by decide⟩ rfl) ?_
    refine X_op' rfl (A_pickF rfl rfl hb1 rfl) ?_
    refine xm rfl rfl rfl rfl ?_
    refine X_both (d := 25) rfl (fun hb2 => ?_) (fun hb2 => ?_)
    ·have khb2 := hb2; (try simp only [kb] at khb2)
     refine X_no1 rfl rfl rfl hb2 ?_
     refine X_no1 rfl rfl rfl hb2 ?_
     refine X_no1 rfl rfl rfl hb2 ?_
     refine X_no1 rfl rfl rfl hb2 ?_
     refine X_op' rfl (A_pickT rfl rfl hb2 rfl) ?_
     refine xm rfl rfl rfl rfl ?_
     refine X_no1 rfl rfl rfl rfl ?_
     refine X_no1 rfl rfl rfl rfl ?_
     refine X_no1 rfl rfl rfl rfl ?_
     refine X_no1 rfl rfl rfl rfl ?_
     refine X_op' rfl (A_pickT rfl rfl rfl rfl) ?_
     refine X_endS ?_
     try dsimp only [St.put, szA, List.length, Nat.reduceAdd]
     refine W_condT rfl rfl ?_
     refine wsr ?_
     refine X_op' rfl (A_build rfl rfl rfl .nil rfl rfl rfl) ?_
     refine X_op' rfl (A_build rfl rfl rfl .nil rfl rfl rfl) ?_
     refine X_op' rfl (A_stV rfl rfl rfl (V_t rfl) (K_t rfl) rfl rfl rfl rfl rfl rfl rfl) ?_
     refine X_op' rfl (A_stV rfl rfl rfl (V_t rfl) (K_t rfl) rfl rfl rfl rfl rfl rfl rfl) ?_
     refine xa rfl rfl rfl rfl ?_
     refine X_endS ?_
     try dsimp only [St.put, szA, List.length, Nat.reduceAdd]
     refine W_ret ?_
     refine Q_seqX ?_
     have hO9 : exP xs lo hi is = none := if_neg fun hin => by obtain ⟨h1, h2, h3, h4, _⟩ := hin; omega
     rw [hO9]
     exact end_R rfl (.c rfl (ld_mp rfl rfl rfl rfl rfl rfl) (.c rfl (ld_mp rfl rfl rfl rfl rfl rfl) (.t rfl .nil)))
    ·have khb2 := hb2; (try simp only [kb] at khb2)
     refine X_yes' rfl rfl rfl hb2 (A_mvT (.inl rfl) rfl rfl) ?_
     refine X_yes' rfl rfl rfl hb2 (A_lenT rfl rfl rfl rfl rfl rfl rfl) ?_
     refine X_yes' rfl rfl rfl hb2 (A_mvT (.inl rfl) rfl rfl) ?_
     refine X_yes' rfl rfl rfl hb2 (A_int rfl rfl rfl ⟨by decide, by decide⟩ rfl) ?_
     refine X_op' rfl (A_pickF rfl rfl hb2 rfl) ?_
     refine xm rfl rfl rfl rfl ?_
     refine X_both (d := 31) rfl (fun hb3 => ?_) (fun hb3 => ?_)
     ·have khb3 := hb3; (try simp only [kb] at khb3)
      refine X_no1 rfl rfl rfl hb3 ?_
      refine X_no1 rfl rfl rfl hb3 ?_
      refine X_no1 rfl rfl rfl hb3 ?_
      refine X_no1 rfl rfl rfl hb3 ?_
      refine X_op' rfl (A_pickT rfl rfl hb3 rfl) ?_
      refine X_endS ?_
      try dsimp only [St.put, szA, List.length, Nat.reduceAdd]
      refine W_condT rfl rfl ?_
      refine wsr ?_
      refine X_op' rfl (A_build rfl rfl rfl .nil rfl rfl rfl) ?_
      refine X_op' rfl (A_build rfl rfl rfl .nil rfl rfl rfl) ?_
      refine X_op' rfl (A_stV rfl rfl rfl (V_t rfl) (K_t rfl) rfl rfl rfl rfl rfl rfl rfl) ?_
      refine X_op' rfl (A_stV rfl rfl rfl (V_t rfl) (K_t rfl) rfl rfl rfl rfl rfl rfl rfl) ?_
      refine xa rfl rfl rfl rfl ?_
      refine X_endS ?_
      try dsimp only [St.put, szA, List.length, Nat.reduceAdd]
      refine W_ret ?_
      refine Q_seqX ?_
      have hO9 : exP xs lo hi is = none := if_neg fun hin => by obtain ⟨h1, h2, h3, h4, _⟩ := hin; omega
      rw [hO9]
      exact end_R rfl (.c rfl (ld_mp rfl rfl rfl rfl rfl rfl) (.c rfl (ld_mp rfl rfl rfl rfl rfl rfl) (.t rfl .nil)))
     ·have khb3 := hb3; (try simp only [kb] at khb3)
      refine X_yes' rfl rfl rfl hb3 (A_mvT (.inl rfl) rfl rfl) ?_
      refine X_yes' rfl rfl rfl hb3 (A_lenT rfl rfl rfl rfl rfl rfl rfl) ?_
      refine X_yes' rfl rfl rfl hb3 (A_mvT (.inl rfl) rfl rfl) ?_
      refine X_yes' rfl rfl rfl hb3 (A_int rfl rfl rfl ⟨by decide, by decide⟩ rfl) ?_
      refine X_op' rfl (A_pickF rfl rfl hb3 rfl) ?_
      refine X_endS ?_
      try dsimp only [St.put, szA, List.length, Nat.reduceAdd]
      refine W_condB rfl (fun hb4 => ?_) (fun hb4 => ?_)
      ·have khb4 := hb4; (try simp only [kb] at khb4)
       refine wsr ?_
       refine X_op' rfl (A_build rfl rfl rfl .nil rfl rfl rfl) ?_
       refine X_op' rfl (A_build rfl rfl rfl .nil rfl rfl rfl) ?_
       refine X_op' rfl (A_stV rfl rfl rfl (V_t rfl) (K_t rfl) rfl rfl rfl rfl rfl rfl rfl) ?_
       refine X_op' rfl (A_stV rfl rfl rfl (V_t rfl) (K_t rfl) rfl rfl rfl rfl rfl rfl rfl) ?_
       refine xa rfl rfl rfl rfl ?_
       refine X_endS ?_
       try dsimp only [St.put, szA, List.length, Nat.reduceAdd]
       refine W_ret ?_
       refine Q_seqX ?_
       have hO9 : exP xs lo hi is = none := if_neg fun hin => by obtain ⟨h1, h2, h3, h4, _⟩ := hin; omega
       rw [hO9]
       exact end_R rfl (.c rfl (ld_mp rfl rfl rfl rfl rfl rfl) (.c rfl (ld_mp rfl rfl rfl rfl rfl rfl) (.t rfl .nil)))
      ·have khb4 := hb4; (try simp only [kb] at khb4)
       refine W_skip ?_
       refine Q_seq ?_
       refine W_seq ?_
       refine wsr ?_
       refine xm rfl rfl rfl rfl ?_
       refine xm rfl rfl rfl rfl ?_
       refine X_endS ?_
       try dsimp only [St.put, szA, List.length, Nat.reduceAdd]
       refine W_blk ?_
       refine W_loop (fun nn σ => ∃ i : Nat, (∀ j, j < i → inB lo hi j) ∧ σ = st11a xs lo hi is i ∧ nn + i = xs.length) (xs.length) ?_ ⟨0, (fun j h => by omega), by kernel_rfl, rfl⟩ (by omega)
       rintro nn _ ⟨i, hI, rfl, hnn⟩
       refine wsr ?_
       refine X_op' rfl (A_int rfl rfl rfl ⟨by decide, by decide⟩ rfl) ?_
       refine X_endS ?_
       try dsimp only [St.put, szA, List.length, Nat.reduceAdd]
       refine W_seq ?_
       refine W_condB rfl (fun hb5 => ?_) (fun hb5 => ?_)
       ·have khb5 := hb5; (try simp only [kb] at khb5)
        refine W_skip ?_
        refine Q_seq ?_
        refine W_seq ?_
        refine W_blk ?_
        refine wsr ?_
        refine xm rfl rfl rfl rfl ?_
        refine xa rfl rfl rfl rfl ?_
        refine X_endS ?_
        try dsimp only [St.put, szA, List.length, Nat.reduceAdd]
        refine wsr ?_
        refine xm rfl rfl rfl rfl ?_
        refine xm rfl rfl rfl rfl ?_
        refine X_op' rfl (A_ixA (0 : Int) rfl rfl rfl rfl rfl rfl rfl (by omega) (by omega) rfl rfl) ?_
        refine X_op' rfl (A_ld rfl rfl rfl (ld_ip1 rfl rfl rfl)) ?_
        refine xm rfl rfl rfl rfl ?_
        refine xm rfl rfl rfl rfl ?_
        refine X_op' rfl (A_ixA (0 : Int) rfl rfl rfl rfl rfl rfl rfl (by omega) (by omega) rfl rfl) ?_
        refine X_op' rfl (A_ld rfl rfl rfl (ld_ip1 rfl rfl rfl)) ?_
        refine X_op' rfl (A_min rfl rfl rfl rfl rfl (minI _ _)) ?_
        refine X_op' rfl (A_int rfl rfl rfl ⟨by decide, by decide⟩ rfl) ?_
        refine xm rfl rfl rfl rfl ?_
        refine X_both (d := 53) rfl (fun hb6 => ?_) (fun hb6 => ?_)
        ·have khb6 := hb6; (try simp only [kb] at khb6)
         refine X_no1 rfl rfl rfl hb6 ?_
         refine X_no1 rfl rfl rfl hb6 ?_
         refine X_no1 rfl rfl rfl hb6 ?_
         refine X_no1 rfl rfl rfl hb6 ?_
         refine X_no1 rfl rfl rfl hb6 ?_
         refine X_no1 rfl rfl rfl hb6 ?_
         refine X_no1 rfl rfl rfl hb6 ?_
         refine X_no1 rfl rfl rfl hb6 ?_
         refine X_no1 rfl rfl rfl hb6 ?_
         refine X_no1 rfl rfl rfl hb6 ?_
         refine X_op' rfl (A_pickT rfl rfl hb6 rfl) ?_
         refine X_endDS (by kernel_rfl) (by kernel_rfl) ?_
         try dsimp only [St.put, szA, List.length, Nat.reduceAdd]
         refine W_condT rfl rfl ?_
         refine wsr ?_
         refine X_op' rfl (A_build rfl rfl rfl .nil rfl rfl rfl) ?_
         refine X_op' rfl (A_build rfl rfl rfl .nil rfl rfl rfl) ?_
         refine X_op' rfl (A_stV rfl rfl rfl (V_t rfl) (K_t rfl) rfl rfl rfl rfl rfl rfl rfl) ?_
         refine X_op' rfl (A_stV rfl rfl rfl (V_t rfl) (K_t rfl) rfl rfl rfl rfl rfl rfl rfl) ?_
         refine xa rfl rfl rfl rfl ?_
         refine X_endS ?_
         try dsimp only [St.put, szA, List.length, Nat.reduceAdd]
         refine W_ret ?_
         refine Q_blkR ?_
         refine Q_seqX ?_
         refine Q_rndR ?_
         refine Q_blkR ?_
         refine Q_seqX ?_
         simp only [Int.toNat_natCast, Nat.zero_add] at *
         have hO9 : exP xs lo hi is = none := if_neg fun hin => by have h := hin.2.2.2.2 i (by omega); unfold inB at h; omega
         rw [hO9]
         exact end_R rfl (.c rfl (ld_mp rfl rfl rfl rfl rfl rfl) (.c rfl (ld_mp rfl rfl rfl rfl rfl rfl) (.t rfl .nil)))
        ·have khb6 := hb6; (try simp only [kb] at khb6)
         refine X_yes' rfl rfl rfl hb6 (A_mvT (.inl rfl) rfl rfl) ?_
         refine X_yes' rfl rfl rfl hb6 (A_mvT (.inl rfl) rfl rfl) ?_
         refine X_yes' rfl rfl rfl hb6 (A_ixA (0 : Int) rfl rfl rfl rfl rfl rfl rfl (by omega) (by omega) rfl rfl) ?_
         refine X_yes' rfl rfl rfl hb6 (A_ld rfl rfl rfl (ld_ip1 rfl rfl rfl)) ?_
         refine X_yes' rfl rfl rfl hb6 (A_mvT (.inl rfl) rfl rfl) ?_
         refine X_yes' rfl rfl rfl hb6 (A_mvT (.inl rfl) rfl rfl) ?_
         refine X_yes' rfl rfl rfl hb6 (A_ixA (0 : Int) rfl rfl rfl rfl rfl rfl rfl (by omega) (by omega) rfl rfl) ?_
         refine X_yes' rfl rfl rfl hb6 (A_ld rfl rfl rfl (ld_ip1 rfl rfl rfl)) ?_
         refine X_yes' rfl rfl rfl hb6 (A_max rfl rfl rfl rfl rfl (maxI _ _)) ?_
         refine X_yes' rfl rfl rfl hb6 (A_int rfl rfl rfl ⟨by decide, by decide⟩ rfl) ?_
         refine X_op' rfl (A_pickF rfl rfl hb6 rfl) ?_
         refine X_endDS (by kernel_rfl) (by kernel_rfl) ?_
         try dsimp only [St.put, szA, List.length, Nat.reduceAdd]
         refine W_condB rfl (fun hb7 => ?_) (fun hb7 => ?_)
         ·have khb7 := hb7; (try simp only [kb] at khb7)
          refine wsr ?_
          refine X_op' rfl (A_build rfl rfl rfl .nil rfl rfl rfl) ?_
          refine X_op' rfl (A_build rfl rfl rfl .nil rfl rfl rfl) ?_
          refine X_op' rfl (A_stV rfl rfl rfl (V_t rfl) (K_t rfl) rfl rfl rfl rfl rfl rfl rfl) ?_
          refine X_op' rfl (A_stV rfl rfl rfl (V_t rfl) (K_t rfl) rfl rfl rfl rfl rfl rfl rfl) ?_
          refine xa rfl rfl rfl rfl ?_
          refine X_endS ?_
          try dsimp only [St.put, szA, List.length, Nat.reduceAdd]
          refine W_ret ?_
          refine Q_blkR ?_
          refine Q_seqX ?_
          refine Q_rndR ?_
          refine Q_blkR ?_
          refine Q_seqX ?_
          simp only [Int.toNat_natCast, Nat.zero_add] at *
          have hO9 : exP xs lo hi is = none := if_neg fun hin => by have h := hin.2.2.2.2 i (by omega); unfold inB at h; omega
          rw [hO9]
          exact end_R rfl (.c rfl (ld_mp rfl rfl rfl rfl rfl rfl) (.c rfl (ld_mp rfl rfl rfl rfl rfl rfl) (.t rfl .nil)))
         ·have khb7 := hb7; (try simp only [kb] at khb7)
          refine W_skip ?_
          refine Q_blkN ?_
          refine Q_seq ?_
          refine W_reg ?_
          refine X_op' rfl (A_int rfl rfl rfl ⟨by decide, by decide⟩ (addI (by omega))) ?_
          refine xm rfl rfl rfl rfl ?_
          refine X_end ?_
          try dsimp only [St.put, szA, List.length, Nat.reduceAdd]
          simp only [Int.toNat_natCast, Nat.zero_add] at *
          exact ⟨nn - 1, by omega, i + 1, fun j hj => if e : j = i then (by subst e; unfold inB; omega) else hI j (by omega), Eq.trans (b := st11a xs lo hi is ((i : Int) + 1)) (by kernel_rfl) rfl, by omega⟩
       ·have khb5 := hb5; (try simp only [kb] at khb5)
        refine W_exit ?_
        refine Q_seqX ?_
        refine Q_rndX ?_
        refine Q_blkE ?_
        refine Q_seq ?_
        refine wsr ?_
        obtain rfl : i = xs.length := by omega
        have hin : inE xs lo hi is := ⟨by omega, by omega, by omega, by omega, hI⟩
        have hok := ok35_of w hn0 hn hin
        clear khb1 hb1 hnn
        refine xm rfl rfl rfl rfl ?_
        refine xm rfl rfl rfl rfl ?_
        refine xm rfl rfl rfl rfl ?_
        refine xm rfl rfl rfl rfl ?_
        refine X_op' rfl (A_callV rfl rfl rfl rfl (.cons (V_t rfl) (K_t rfl) (.cons (V_t rfl) (K_t rfl) (.cons (V_t rfl) (K_t rfl) (.cons (V_t rfl) (K_t rfl) .nil)))) (cc35 hok)) ?_
        generalize hO1 : gP (tF xs) (iF lo) (iF hi) (iF is) xs.length (ordQ xs) = O1
        refine X_op' rfl (A_mvU (.inl rfl) rfl) ?_
        refine X_op' rfl (A_ext rfl rfl rfl) ?_
        refine X_op' rfl (A_ext rfl rfl rfl) ?_
        refine X_op' rfl (A_stV rfl rfl rfl (V_t rfl) (K_t rfl) rfl rfl rfl rfl rfl rfl rfl) ?_
        refine xa rfl rfl rfl rfl ?_
        refine X_endS ?_
        try dsimp only [St.put, szA, List.length, Nat.reduceAdd]
        refine W_seq ?_
        refine wsr ?_
        refine xm rfl rfl rfl rfl ?_
        refine X_op' rfl (A_not rfl rfl) ?_
        refine X_endS ?_
        try dsimp only [St.put, szA, List.length, Nat.reduceAdd]
        refine W_condB rfl (fun hb9 => ?_) (fun hb9 => ?_)
        ·have khb9 := hb9; (try simp only [kb] at khb9)
         refine wsr ?_
         refine X_op' rfl (A_build rfl rfl rfl .nil rfl rfl rfl) ?_
         refine X_op' rfl (A_build rfl rfl rfl .nil rfl rfl rfl) ?_
         refine X_op' rfl (A_stV rfl rfl rfl (V_t rfl) (K_t rfl) rfl rfl rfl rfl rfl rfl rfl) ?_
         refine X_op' rfl (A_stV rfl rfl rfl (V_t rfl) (K_t rfl) rfl rfl rfl rfl rfl rfl rfl) ?_
         refine xa rfl rfl rfl rfl ?_
         refine X_endS ?_
         try dsimp only [St.put, szA, List.length, Nat.reduceAdd]
         refine W_ret ?_
         refine Q_seqX ?_
         have hO9 : exP xs lo hi is = none := by
           have h1 : O1 = none := by cases O1 with
             | none => rfl
             | some q => simp at khb9
           unfold exP
           rw [if_pos hin, hO1, h1]
         rw [hO9]
         exact end_R rfl (.c rfl (ld_mp rfl rfl rfl rfl rfl rfl) (.c rfl (ld_mp rfl rfl rfl rfl rfl rfl) (.t rfl .nil)))
        ·have khb9 := hb9; (try simp only [kb] at khb9)
         refine W_skip ?_
         refine Q_seq ?_
         refine wsr ?_
         refine xm rfl rfl rfl rfl ?_
         refine X_op' rfl (A_make (j := xs.length) rfl rfl rfl rfl rfl rfl (by omega) (by first | omega | (simp only [intE, slE, boolE, integerE, rationalE]; omega)) (by omega)) ?_
         refine X_op' rfl (A_mvM (.inr rfl) rfl) ?_
         refine X_endS ?_
         try dsimp only [St.put, szA, List.length, Nat.reduceAdd]
         refine W_seq ?_
         refine wsr ?_
         refine xm rfl rfl rfl rfl ?_
         refine xm rfl rfl rfl rfl ?_
         refine X_endS ?_
         try dsimp only [St.put, szA, List.length, Nat.reduceAdd]
         refine W_blk ?_
         refine W_loop (fun nn σ => ∃ (i : Nat) (L : List Rr), L.length = xs.length ∧ L = negL xs i ∧ σ = st11b xs lo hi is O1.isSome O1 L i ∧ nn + i = xs.length) (xs.length) ?_ ⟨0, negL xs 0, negL_len _ _ (Nat.zero_le _), rfl, (by simp only [st11b, negL, List.take_zero, List.map_nil, List.nil_append, List.map_replicate]; rfl), rfl⟩ (by omega)
         rintro nn _ ⟨i, L, hLl, hL, rfl, hnn⟩
         refine wsr ?_
         refine X_op' rfl (A_int rfl rfl rfl ⟨by decide, by decide⟩ rfl) ?_
         refine X_endS ?_
         try dsimp only [St.put, szA, List.length, Nat.reduceAdd]
         refine W_seq ?_
         refine W_condB rfl (fun hb10 => ?_) (fun hb10 => ?_)
         ·have khb10 := hb10; (try simp only [kb] at khb10)
          refine W_skip ?_
          refine Q_seq ?_
          refine W_seq ?_
          refine W_blk ?_
          refine wsr ?_
          refine xm rfl rfl rfl rfl ?_
          refine xa rfl rfl rfl rfl ?_
          refine X_endS ?_
          try dsimp only [St.put, szA, List.length, Nat.reduceAdd]
          refine W_reg ?_
          refine X_op' rfl (A_mvM (.inl rfl) rfl) ?_
          refine xm rfl rfl rfl rfl ?_
          refine xm rfl rfl rfl rfl ?_
          refine xm rfl rfl rfl rfl ?_
          refine X_op' rfl (A_ixA r0 rfl rfl rfl rfl rfl rfl rfl (by omega) (by omega) rfl rfl) ?_
          refine X_op' rfl (A_ld rfl rfl rfl (ld_ip3 rfl rfl rfl rfl rfl)) ?_
          refine X_op' rfl (A_callV rfl rfl rfl rfl (.cons (V_t rfl) (K_t rfl) .nil) (c36 (getD_ok w _) hn0 (by omega))) ?_
          refine X_op' rfl (A_ixO rfl rfl rfl rfl rfl rfl rfl (by omega) (by omega)) ?_
          refine X_op' rfl (A_stR r0 rfl rfl rfl (V_t rfl) (K_t rfl) rfl (show tc (-(xs.getD ((i : Int)).toNat r0).v) = Rr.t (negR (xs.getD ((i : Int)).toNat r0)) from rfl) (by first | omega | (simp only [List.length_set]; omega)) rfl rfl rfl rfl rfl rfl) ?_
          refine X_end ?_
          try dsimp only [St.put, szA, List.length, Nat.reduceAdd]
          refine Q_blkN ?_
          refine Q_seq ?_
          refine W_reg ?_
          refine X_op' rfl (A_int rfl rfl rfl ⟨by decide, by decide⟩ (addI (by omega))) ?_
          refine xm rfl rfl rfl rfl ?_
          refine X_end ?_
          try dsimp only [St.put, szA, List.length, Nat.reduceAdd]
          exact ⟨nn - 1, by omega, i + 1, L.set (0 + ((i : Int)).toNat) (negR (xs.getD ((i : Int)).toNat r0)), by rw [List.length_set]; exact hLl, by rw [hL, show 0 + ((i : Int)).toNat = i by omega, show ((i : Int)).toNat = i by omega, negL_set _ _ (by omega)], Eq.trans (b := st11b xs lo hi is O1.isSome O1 (L.set (0 + ((i : Int)).toNat) (negR (xs.getD ((i : Int)).toNat r0))) ((i : Int) + 1)) (by kernel_rfl) rfl, by omega⟩
         ·have khb10 := hb10; (try simp only [kb] at khb10)
          refine W_exit ?_
          refine Q_seqX ?_
          refine Q_rndX ?_
          refine Q_blkE ?_
          refine Q_seq ?_
          refine wsr ?_
          obtain rfl : i = xs.length := by omega
          obtain rfl : L = xs.map negR := by rw [hL, negL_all]
          refine X_op' rfl (A_mvM (.inl rfl) rfl) ?_
          refine xm rfl rfl rfl rfl ?_
          refine xm rfl rfl rfl rfl ?_
          refine xm rfl rfl rfl rfl ?_
          refine X_op' rfl (A_callV rfl rfl rfl rfl (.cons (V_m rfl rfl rfl (by rw [List.length_map]; exact hLl)) (K_m rfl) (.cons (V_t rfl) (K_t rfl) (.cons (V_t rfl) (K_t rfl) (.cons (V_t rfl) (K_t rfl) .nil)))) (cc35 (ok35_neg hok))) ?_
          generalize hO2 : gP (tF (xs.map negR)) (iF lo) (iF hi) (iF is) (xs.map negR).length (ordQ (xs.map negR)) = O2
          refine X_op' rfl (A_mvU (.inl rfl) rfl) ?_
          refine X_op' rfl (A_ext rfl rfl rfl) ?_
          refine X_op' rfl (A_ext rfl rfl rfl) ?_
          refine X_op' rfl (A_stV rfl rfl rfl (V_t rfl) (K_t rfl) rfl rfl rfl rfl rfl rfl rfl) ?_
          refine X_endS ?_
          try dsimp only [St.put, szA, List.length, Nat.reduceAdd]
          refine wsr ?_
          refine X_op' rfl (A_ld rfl rfl rfl (ld_mp rfl rfl rfl rfl rfl rfl)) ?_
          refine X_op' rfl (A_callV rfl rfl rfl rfl (.cons (V_t rfl) (K_t rfl) .nil) ((c36 (Rw_o fun q hq => gP35_fit (ok35_neg hok) (hO2.trans hq)) (by omega) (by omega)).trans (show some (Ret.ts [tc (-(rv (oB O2) (oL O2) (oK O2)))]) = some (Ret.ts [tc (-(O2.getD 0))]) by rw [rv_o]))) ?_
          refine X_op' rfl (A_ld rfl rfl rfl (ld_mp rfl rfl rfl rfl rfl rfl)) ?_
          refine X_op' rfl (A_stV rfl rfl rfl (V_t rfl) (K_t rfl) rfl rfl rfl rfl rfl rfl rfl) ?_
          refine X_op' rfl (A_stV rfl rfl rfl (V_t rfl) (K_t rfl) rfl rfl rfl rfl rfl rfl rfl) ?_
          refine xa rfl rfl rfl rfl ?_
          refine X_endDS (by kernel_rfl) (by kernel_rfl) ?_
          try dsimp only [St.put, szA, List.length, Nat.reduceAdd]
          refine W_ret ?_
          have hO9 : exP xs lo hi is = some (-(O2.getD 0), O1.getD 0) := by
            unfold exP
            rw [if_pos hin, hO1, hO2]
            cases O1 with
            | none => simp at khb9
            | some q => rfl
          rw [hO9]
          obtain ⟨q, rfl⟩ : ∃ q, O1 = some q := by
            cases O1 with
            | none => simp at khb9
            | some q => exact ⟨q, rfl⟩
          exact end_R rfl (.c rfl (ld_mp rfl rfl rfl rfl rfl rfl) (.c rfl (ld_mp rfl rfl rfl rfl rfl rfl) (.t rfl .nil)))
  exact (if_pos rfl).trans (run _ (by simp only [fu11]; omega) _ rfl)
end Go.Ev.S
/- The reference's extreme values. -/
set_option linter.unusedVariables false
set_option linter.unusedSimpArgs false
set_option maxRecDepth 100000
namespace Go.Ev.S
open Go Go.Ev Go.Proofs NumA
def nB (b : Bool) (q : Rat) : Bool := b && decide (q.num < 0)
def nL (b : Bool) (q : Rat) : List Int := if b then en (q.num.natAbs : Int) else []
def nK (b : Bool) (q : Rat) : List Int := if b then en (q.den : Int) else []
/-- A number that was added to, or one that was never touched. -/
abbrev nT (b : Bool) (q : Rat) : T := tq (nB b q) (nL b q) (nK b q)
theorem rv_n {b : Bool} {q : Rat} (h : b = false → q = 0) : rv (nB b q) (nL b q) (nK b q) = q := by
  cases b with
  | false => rw [h rfl]; simp [nB, nL, nK, rv, nv, Rat.divInt_zero]
  | true => exact tc_rv q
theorem Rw_n {M : Nat} {b : Bool} {q : Rat} (h : Fit M q) : Rw M (nB b q) (nL b q) (nK b q) := by
  cases b with
  | false => exact ⟨U32_nil, U32_nil, by simp [nL], by simp [nK]⟩
  | true => exact Rw.can h
theorem rRet_eq (o : Option (Rat × Bool)) : rRet o = .ts [oT (o.map (·.1)), .v (.bool ((o.map (·.2)).getD false))] := by
  cases o with
  | none => rfl
  | some p => rfl
theorem cc37 {n : Nat} {xs : List Rr} {lo hi is : List Int} {k0 : Int} (hok : Ok35 n xs lo hi is) {R : Option (Rat × Bool)} (hR : rG (tF xs) (iF lo) (iF hi) (iF is) xs.length k0 = R) : g37 [tl xs, ti lo, ti hi, ti is, ii k0] = some (.ts [oT (R.map (·.1)), .v (.bool ((R.map (·.2)).getD false))]) := by
  rw [c37 hok, hR, rRet_eq]
theorem cc37n {n : Nat} {xs : List Rr} {lo hi is : List Int} {k0 : Int} (hok : Ok35 n xs lo hi is) {R : Option (Rat × Bool)} (hR : rG (tF (xs.map negR)) (iF lo) (iF hi) (iF is) xs.length k0 = R) : g37 [tl (xs.map negR), ti lo, ti hi, ti is, ii k0] = some (.ts [oT (R.map (·.1)), .v (.bool ((R.map (·.2)).getD false))]) := by
  rw [c37 (ok35_neg hok), List.length_map, hR, rRet_eq]
theorem isT_eq {o : Option (Rat × Bool)} (h : (o.map (·.2)).getD false = true) : isT o = o.map (·.1) := by
  cases o with
  | none => cases h
  | some p => obtain ⟨q, b⟩ := p; simp at h; subst h; rfl
theorem isT_no {o : Option (Rat × Bool)} (h : (o.map (·.2)).getD false = false) : isT o = none := by
  cases o with
  | none => rfl
  | some p => obtain ⟨q, b⟩ := p; simp at h; subst h; rfl
/-- No earlier one of its island. -/
def fB (is : List Int) (i j : Nat) : Bool := decide (∀ l, l < j → iF is l ≠ iF is i)
theorem fB_succ (is : List Int) (i j : Nat) : fB is i (j + 1) = (fB is i j && (iF is j != iF is i)) := by
  unfold fB
  rw [Bool.eq_iff_iff]
  simp only [decide_eq_true_eq, Bool.and_eq_true, bne_iff_ne]
  constructor
  · intro h
    exact ⟨fun l hl => h l (by omega), h j (by omega)⟩
  · rintro ⟨h1, h2⟩ l hl
    by_cases e : l = j
    · subst e; exact h2
    · exact h1 l (by omega)
theorem fB_seen (is : List Int) (i : Nat) : NumA.seen (iF is) i i = !fB is i i := by
  unfold NumA.seen fB
  rw [Bool.eq_iff_iff]
  simp only [decide_eq_true_eq, Bool.not_eq_true', decide_eq_false_iff_not]
  constructor
  · rintro ⟨l, h1, h2⟩ h
    exact h l h1 h2
  · intro h
    by_cases hc : ∃ l, l < i ∧ iF is l = iF is i
    · exact hc
    · exact absurd (fun l hl he => hc ⟨l, hl, he⟩) h
def exR (xs : List Rr) (lo hi is : List Int) : Option (Rat × Rat) :=
  if inE xs lo hi is then rX (tF xs) (tF (xs.map negR)) (iF lo) (iF hi) (iF is) xs.length xs.length 0 0 0 else none
def ret12 (N : Nat) : Option (Rat × Rat) → Ret
  | none => .ts [zT, zT, .v (.bool false)]
  | some (le, mo) => .ts [nT (decide (0 < N)) le, nT (decide (0 < N)) mo, .v (.bool true)]
abbrev KK (n : Nat) : Nat := 1 + 65 * (n + 2)
theorem fit_acc {n s : Nat} {p q : Rat} (hp : Fit (1 + s * (KK n + 1)) p) (hq : Fit (KK n) q) : Fit (1 + (s + 1) * (KK n + 1)) (p + q) := by
  have h := fit_add hp hq
  have e : 1 + s * (KK n + 1) + KK n + 1 = 1 + (s + 1) * (KK n + 1) := by rw [Nat.add_mul]; omega
  rwa [e] at h
theorem fit_acc' {n s : Nat} {p q : Rat} (hp : Fit (1 + s * (KK n + 1)) p) (hq : Fit (KK n) q) : Fit (1 + (s + 1) * (KK n + 1)) (p - q) := by
  rw [Rat.sub_eq_add_neg]; exact fit_acc hp (fit_neg hq)
theorem fit_acu {n s : Nat} {p : Rat} (hp : Fit (1 + s * (KK n + 1)) p) : Fit (1 + (s + 1) * (KK n + 1)) p := hp.le (by have := Nat.mul_le_mul_right (KK n + 1) (show s ≤ s + 1 by omega); omega)
theorem acc_lim {n s : Nat} {p : Rat} (hp : Fit (1 + s * (KK n + 1)) p) (hs : s ≤ 32) : Fit (1 + 32 * (KK n + 1)) p := hp.le (by have := Nat.mul_le_mul_right (KK n + 1) hs; omega)
theorem acc_add {n s : Nat} {b : Bool} {p q : Rat} (hb : b = false → p = 0) (hp : Fit (1 + s * (KK n + 1)) p) (hq : Fit (KK n) q) (hs : s ≤ 32) (hn : n ≤ 100000) : g16 [nT b p, tc q] = some (.ts [tc (p + q)]) := by
  have h := c16 (Rw_n (b := b) (acc_lim hp hs)) (Rw.can (hq.le (show KK n ≤ 1 + 32 * (KK n + 1) by omega))) (by omega) (by show 1 + 32 * (1 + 65 * (n + 2) + 1) ≤ _; omega)
  rw [rv_n hb, tc_rv] at h
  exact h
theorem acc_sub {n s : Nat} {b : Bool} {p q : Rat} (hb : b = false → p = 0) (hp : Fit (1 + s * (KK n + 1)) p) (hq : Fit (KK n) q) (hs : s ≤ 32) (hn : n ≤ 100000) : g29 [nT b p, tc q] = some (.ts [tc (p - q)]) := by
  have h := c29 (Rw_n (b := b) (acc_lim hp hs)) (Rw.can (hq.le (show KK n ≤ 1 + 32 * (KK n + 1) by omega))) (by omega) (by show 1 + 32 * (1 + 65 * (n + 2) + 1) ≤ _; omega)
  rw [rv_n hb, tc_rv] at h
  exact h
theorem rG35_fit {n : Nat} {xs : List Rr} {lo hi is : List Int} (h : Ok35 n xs lo hi is) {k0 : Int} {q : Rat} (hq : isT (rG (tF xs) (iF lo) (iF hi) (iF is) xs.length k0) = some q) : Fit (KK n) q := by
  cases hg : rG (tF xs) (iF lo) (iF hi) (iF is) xs.length k0 with
  | none => rw [hg] at hq; cases hq
  | some p =>
    obtain ⟨a, b⟩ := p
    rw [hg] at hq
    have e : a = q := by cases b <;> simp [isT] at hq; exact hq
    subst e
    exact rG_fit (fun i => Rw.fit (getD_ok h.w _) h.hn0) h.b1 h.b2 h.hN hg
def st12a (xs : List Rr) (lo hi is : List Int) (i : Int) : St := { tm := [(0, .t (tl xs)), (1, .t (ti lo)), (2, .t (ti hi)), (3, .t (ti is)), (8, .mp 0 3 0 0), (9, .mp 1 3 0 0), (10, .t (.v (.bool false))), (11, .t (ii ((xs.map Rr.t).length : Int))), (12, .nil 3), (13, .t (ii i))], mm := [(0, some ⟨30, 3, [zT]⟩), (1, some ⟨30, 3, [zT]⟩)], nx := 2 }
def st12b (xs : List Rr) (lo hi is : List Int) (R : List T) (k : Nat) (i : Int) : St := { tm := [(0, .t (tl xs)), (1, .t (ti lo)), (2, .t (ti hi)), (3, .t (ti is)), (8, .mp 0 3 0 0), (9, .mp 1 3 0 0), (10, .t (.v (.bool false))), (11, .t (ii ((xs.map Rr.t).length : Int))), (12, .ms 2 3 0 k), (13, .t (ii i))], mm := [(0, some ⟨30, 3, [zT]⟩), (1, some ⟨30, 3, [zT]⟩), (2, some ⟨30, 3, R⟩)], nx := 3 }
def st12c (xs : List Rr) (lo hi is : List Int) (b : Bool) (le mo : Rat) (i : Int) : St := { tm := [(0, .t (tl xs)), (1, .t (ti lo)), (2, .t (ti hi)), (3, .t (ti is)), (8, .mp 0 3 0 0), (9, .mp 1 3 0 0), (10, .t (.v (.bool false))), (11, .t (ii ((xs.map Rr.t).length : Int))), (12, .t (tl (xs.map negR))), (14, .t (ii i))], mm := [(0, some ⟨30, 3, [nT b le]⟩), (1, some ⟨30, 3, [nT b mo]⟩)], nx := 2 }
def st12d (xs : List Rr) (lo hi is : List Int) (b : Bool) (le mo : Rat) (i : Int) (f : Bool) (j : Int) : St := { tm := [(0, .t (tl xs)), (1, .t (ti lo)), (2, .t (ti hi)), (3, .t (ti is)), (8, .mp 0 3 0 0), (9, .mp 1 3 0 0), (10, .t (.v (.bool false))), (11, .t (ii ((xs.map Rr.t).length : Int))), (12, .t (tl (xs.map negR))), (14, .t (ii i)), (15, .t (.v (.bool f))), (16, .t (ii j))], mm := [(0, some ⟨30, 3, [nT b le]⟩), (1, some ⟨30, 3, [nT b mo]⟩)], nx := 2 }
structure X12 (xs : List Rr) (lo hi is : List Int) (σ : St) : Prop where
  hin : inE xs lo hi is
  t0 : look σ.tm 0 = .t (tl xs)
  t1 : look σ.tm 1 = .t (ti lo)
  t2 : look σ.tm 2 = .t (ti hi)
  t3 : look σ.tm 3 = .t (ti is)
  t8 : look σ.tm 8 = .mp 0 3 0 0
  t9 : look σ.tm 9 = .mp 1 3 0 0
  t10 : look σ.tm 10 = .t (.v (.bool false))
  t11 : look σ.tm 11 = .t (ii ((xs.map Rr.t).length : Int))
  t12 : viewT (lookM σ.mm) (look σ.tm 12) = some (tl (xs.map negR))
  m0 : lookM (kills (look σ.tm 12) ++ σ.mm) 0 = some ⟨30, 3, [zT]⟩
  m1 : lookM (kills (look σ.tm 12) ++ σ.mm) 1 = some ⟨30, 3, [zT]⟩
def keep12 : Nat → List Nat := fun b => if b = 0 then [0, 1, 2, 3, 8, 9, 10, 11, 12, 13] else if b = 2 then [0, 1, 2, 3, 8, 9, 10, 11, 12, 14] else [0, 1, 2, 3, 8, 9, 10, 11, 12, 14, 15, 16]
noncomputable def sp12 : Nat → Option Spec := (more 16 (viewSpec g16) (more 23 (viewSpec g23) (more 29 (viewSpec g29) (more 37 (viewSpec g37) noneS))))
theorem hs12 : ∀ f s, sp12 f = some s → SpecOk Tryz.prog f s := (more_ok s16 (more_ok s23 (more_ok s29 (more_ok s37 none_ok))))
set_option maxHeartbeats 8000000 in
theorem pre12 {n : Nat} {xs : List Rr} {lo hi is : List Int} (w : ∀ x ∈ xs, x.ok n) (hn0 : 0 < n) (hn : n ≤ 100000) (hx : xs.length ≤ 1000000) (g1 : lo.length ≤ 1000000) (g2 : hi.length ≤ 1000000) (g3 : is.length ≤ 1000000) (fuel : Nat) (hf : 1099511627776 < fuel) (c : Code) (hc : Tryz.f12.body = some c) :
    WC ty sp12 0 keep12 fuel (cPre 5 c) 0 { tm := [tl xs, ti lo, ti hi, ti is].zipIdx.map fun p => (p.2, .t p.1), mm := [], nx := 0 } (CutQ ty Tryz.f12.results (ret12 xs.length (exR xs lo hi is)) (X12 xs lo hi is)) := by
  injection hc with hc
  subst hc
  have el : (xs.map Rr.t).length = xs.length := List.length_map _
  have e1 : (lo.map ii).length = lo.length := List.length_map _
  have e2 : (hi.map ii).length = hi.length := List.length_map _
  have e3 : (is.map ii).length = is.length := List.length_map _
  refine wsr ?_
  refine X_op' rfl (A_alloc rfl rfl) ?_
  refine X_op' rfl (A_alloc rfl rfl) ?_
  refine xa rfl rfl rfl rfl ?_
  refine X_endS ?_
  try dsimp only [St.put, szA, List.length, Nat.reduceAdd]
  refine wsr ?_
  refine xm rfl rfl rfl rfl ?_
  refine X_op' rfl (A_lenT rfl rfl rfl rfl rfl rfl rfl) ?_
  refine xa rfl rfl rfl rfl ?_
  refine X_endS ?_
  try dsimp only [St.put, szA, List.length, Nat.reduceAdd]
  refine W_seq ?_
  refine wsr ?_
  refine xm rfl rfl rfl rfl ?_
  refine X_op' rfl (A_int rfl rfl rfl ⟨by decide, by decide⟩ rfl) ?_
  refine xm rfl rfl rfl rfl ?_
  refine X_both (d := 25) rfl (fun hb1 => ?_) (fun hb1 => ?_)
  ·have khb1 := hb1; (try simp only [kb] at khb1)
   refine X_no1 rfl rfl rfl hb1 ?_
   refine X_no1 rfl rfl rfl hb1 ?_
   refine X_no1 rfl rfl rfl hb1 ?_
   refine X_no1 rfl rfl rfl hb1 ?_
   refine X_op' rfl (A_pickT rfl rfl hb1 rfl) ?_
   refine xm rfl rfl rfl rfl ?_
   refine X_no1 rfl rfl rfl rfl ?_
   refine X_no1 rfl rfl rfl rfl ?_
   refine X_no1 rfl rfl rfl rfl ?_
   refine X_no1 rfl rfl rfl rfl ?_
   refine X_op' rfl (A_pickT rfl rfl rfl rfl) ?_
   refine xm rfl rfl rfl rfl ?_
   refine X_no1 rfl rfl rfl rfl ?_
   refine X_no1 rfl rfl rfl rfl ?_
   refine X_no1 rfl rfl rfl rfl ?_
   refine X_no1 rfl rfl rfl rfl ?_
   refine X_op' rfl (A_pickT rfl rfl rfl rfl) ?_
   refine X_endS ?_
   try dsimp only [St.put, szA, List.length, Nat.reduceAdd]
   refine W_condT rfl rfl ?_
   refine wsr ?_
   refine X_op' rfl (A_build rfl rfl rfl .nil rfl rfl rfl) ?_
   refine X_op' rfl (A_build rfl rfl rfl .nil rfl rfl rfl) ?_
   refine X_op' rfl (A_stV rfl rfl rfl (V_t rfl) (K_t rfl) rfl rfl rfl rfl rfl rfl rfl) ?_
   refine X_op' rfl (A_stV rfl rfl rfl (V_t rfl) (K_t rfl) rfl rfl rfl rfl rfl rfl rfl) ?_
   refine xa rfl rfl rfl rfl ?_
   refine X_endS ?_
   try dsimp only [St.put, szA, List.length, Nat.reduceAdd]
   refine W_ret ?_
   refine Q_seqX ?_
   have hO9 : exR xs lo hi is = none := if_neg fun hin => by obtain ⟨h1, h2, h3, h4, _⟩ := hin; omega
   rw [hO9]
   exact end_R rfl (.c rfl (ld_mp rfl rfl rfl rfl rfl rfl) (.c rfl (ld_mp rfl rfl rfl rfl rfl rfl) (.t rfl .nil)))
  ·have khb1 := hb1; (try simp only [kb] at khb1)
   refine X_yes' rfl rfl rfl hb1 (A_mvT (.inl rfl) rfl rfl) ?_
   refine X_yes' rfl rfl rfl hb1 (A_lenT rfl rfl rfl rfl rfl rfl rfl) ?_
   refine X_yes' rfl rfl rfl hb1 (A_mvT (.inl rfl) rfl rfl) ?_
   refine X_yes' rfl rfl rfl hb1 (A_int rfl rfl rfl ⟨by decide, by decide⟩ rfl) ?_
   refine X_op' rfl (A_pickF rfl rfl hb1 rfl) ?_
   refine xm rfl rfl rfl rfl ?_
   refine X_both (d := 31) rfl (fun hb2 => ?_) (fun hb2 => ?_)
   ·have khb2 := hb2; (try simp only [kb] at khb2)
    refine X_no1 rfl rfl rfl hb2 ?_
    refine X_no1 rfl rfl rfl hb2 ?_
    refine X_no1 rfl rfl rfl hb2 ?_
    refine X_no1 rfl rfl rfl hb2 ?_
    refine X_op' rfl (A_pickT rfl rfl hb2 rfl) ?_
    refine xm rfl rfl rfl rfl ?_
    refine X_no1 rfl rfl rfl rfl ?_
    refine X_no1 rfl rfl rfl rfl ?_
    refine X_no1 rfl rfl rfl rfl ?_
    refine X_no1 rfl rfl rfl rfl ?_
    refine X_op' rfl (A_pickT rfl rfl rfl rfl) ?_
    refine X_endS ?_
    try dsimp only [St.put, szA, List.length, Nat.reduceAdd]
    refine W_condT rfl rfl ?_
    refine wsr ?_
    refine X_op' rfl (A_build rfl rfl rfl .nil rfl rfl rfl) ?_
    refine X_op' rfl (A_build rfl rfl rfl .nil rfl rfl rfl) ?_
    refine X_op' rfl (A_stV rfl rfl rfl (V_t rfl) (K_t rfl) rfl rfl rfl rfl rfl rfl rfl) ?_
    refine X_op' rfl (A_stV rfl rfl rfl (V_t rfl) (K_t rfl) rfl rfl rfl rfl rfl rfl rfl) ?_
    refine xa rfl rfl rfl rfl ?_
    refine X_endS ?_
    try dsimp only [St.put, szA, List.length, Nat.reduceAdd]
    refine W_ret ?_
    refine Q_seqX ?_
    have hO9 : exR xs lo hi is = none := if_neg fun hin => by obtain ⟨h1, h2, h3, h4, _⟩ := hin; omega
    rw [hO9]
    exact end_R rfl (.c rfl (ld_mp rfl rfl rfl rfl rfl rfl) (.c rfl (ld_mp rfl rfl rfl rfl rfl rfl) (.t rfl .nil)))
   ·have khb2 := hb2; (try simp only [kb] at khb2)
    refine X_yes' rfl rfl rfl hb2 (A_mvT (.inl rfl) rfl rfl) ?_
    refine X_yes' rfl rfl rfl hb2 (A_lenT rfl rfl rfl rfl rfl rfl rfl) ?_
    refine X_yes' rfl rfl rfl hb2 (A_mvT (.inl rfl) rfl rfl) ?_
    refine X_yes' rfl rfl rfl hb2 (A_int rfl rfl rfl ⟨by decide, by decide⟩ rfl) ?_
    refine X_op' rfl (A_pickF rfl rfl hb2 rfl) ?_
    refine xm rfl rfl rfl rfl ?_
    refine X_both (d := 37) rfl (fun hb3 => ?_) (fun hb3 => ?_)
    ·have khb3 := hb3; (try simp only [kb] at khb3)
     refine X_no1 rfl rfl rfl hb3 ?_
     refine X_no1 rfl rfl rfl hb3 ?_
     refine X_no1 rfl rfl rfl hb3 ?_
     refine X_no1 rfl rfl rfl hb3 ?_
     refine X_op' rfl (A_pickT rfl rfl hb3 rfl) ?_
     refine X_endS ?_
     try dsimp only [St.put, szA, List.length, Nat.reduceAdd]
     refine W_condT rfl rfl ?_
     refine wsr ?_
     refine X_op' rfl (A_build rfl rfl rfl .nil rfl rfl rfl) ?_
     refine X_op' rfl (A_build rfl rfl rfl .nil rfl rfl rfl) ?_
     refine X_op' rfl (A_stV rfl rfl rfl (V_t rfl) (K_t rfl) rfl rfl rfl rfl rfl rfl rfl) ?_
     refine X_op' rfl (A_stV rfl rfl rfl (V_t rfl) (K_t rfl) rfl rfl rfl rfl rfl rfl rfl) ?_
     refine xa rfl rfl rfl rfl ?_
     refine X_endS ?_
     try dsimp only [St.put, szA, List.length, Nat.reduceAdd]
     refine W_ret ?_
     refine Q_seqX ?_
     have hO9 : exR xs lo hi is = none := if_neg fun hin => by obtain ⟨h1, h2, h3, h4, _⟩ := hin; omega
     rw [hO9]
     exact end_R rfl (.c rfl (ld_mp rfl rfl rfl rfl rfl rfl) (.c rfl (ld_mp rfl rfl rfl rfl rfl rfl) (.t rfl .nil)))
    ·have khb3 := hb3; (try simp only [kb] at khb3)
     refine X_yes' rfl rfl rfl hb3 (A_mvT (.inl rfl) rfl rfl) ?_
     refine X_yes' rfl rfl rfl hb3 (A_lenT rfl rfl rfl rfl rfl rfl rfl) ?_
     refine X_yes' rfl rfl rfl hb3 (A_mvT (.inl rfl) rfl rfl) ?_
     refine X_yes' rfl rfl rfl hb3 (A_int rfl rfl rfl ⟨by decide, by decide⟩ rfl) ?_
     refine X_op' rfl (A_pickF rfl rfl hb3 rfl) ?_
     refine X_endS ?_
     try dsimp only [St.put, szA, List.length, Nat.reduceAdd]
     refine W_condB rfl (fun hb4 => ?_) (fun hb4 => ?_)
     ·have khb4 := hb4; (try simp only [kb] at khb4)
      refine wsr ?_
      refine X_op' rfl (A_build rfl rfl rfl .nil rfl rfl rfl) ?_
      refine X_op' rfl (A_build rfl rfl rfl .nil rfl rfl rfl) ?_
      refine X_op' rfl (A_stV rfl rfl rfl (V_t rfl) (K_t rfl) rfl rfl rfl rfl rfl rfl rfl) ?_
      refine X_op' rfl (A_stV rfl rfl rfl (V_t rfl) (K_t rfl) rfl rfl rfl rfl rfl rfl rfl) ?_
      refine xa rfl rfl rfl rfl ?_
      refine X_endS ?_
      try dsimp only [St.put, szA, List.length, Nat.reduceAdd]
      refine W_ret ?_
      refine Q_seqX ?_
      have hO9 : exR xs lo hi is = none := if_neg fun hin => by obtain ⟨h1, h2, h3, h4, _⟩ := hin; omega
      rw [hO9]
      exact end_R rfl (.c rfl (ld_mp rfl rfl rfl rfl rfl rfl) (.c rfl (ld_mp rfl rfl rfl rfl rfl rfl) (.t rfl .nil)))
     ·have khb4 := hb4; (try simp only [kb] at khb4)
      refine W_skip ?_
      refine Q_seq ?_
      refine wsr ?_
      refine X_op' rfl (A_mv0 (.inr rfl) rfl rfl rfl rfl) ?_
      refine X_endS ?_
      try dsimp only [St.put, szA, List.length, Nat.reduceAdd]
      refine W_seq ?_
      refine wsr ?_
      refine xa rfl rfl rfl rfl ?_
      refine X_endS ?_
      try dsimp only [St.put, szA, List.length, Nat.reduceAdd]
      refine W_blk ?_
      refine W_loop (fun nn σ => ∃ i : Nat, (∀ j, j < i → inB lo hi j) ∧ (i = 0 ∧ σ = st12a xs lo hi is 0 ∨ 0 < i ∧ ∃ R : List T, R = ((xs.take i).map negR).map Rr.t ∧ σ = st12b xs lo hi is R i i) ∧ nn + i = xs.length) (xs.length) ?_ ⟨0, (fun j h => by omega), .inl ⟨rfl, by kernel_rfl⟩, rfl⟩ (by omega)
      rintro nn _ ⟨i, hI, ⟨hi0, rfl⟩ | ⟨hi0, R, hR, rfl⟩, hnn⟩
      ·subst hi0
       refine W_seq ?_
       refine wsr ?_
       refine xm rfl rfl rfl rfl ?_
       refine xm rfl rfl rfl rfl ?_
       refine X_op' rfl (A_int rfl rfl rfl ⟨by decide, by decide⟩ rfl) ?_
       refine X_endS ?_
       try dsimp only [St.put, szA, List.length, Nat.reduceAdd]
       refine W_condB rfl (fun hb5 => ?_) (fun hb5 => ?_)
       ·have khb5 := hb5; (try simp only [kb] at khb5)
        refine W_skip ?_
        refine Q_seq ?_
        refine W_seq ?_
        refine W_blk ?_
        refine W_seq ?_
        refine wsr ?_
        refine xm rfl rfl rfl rfl ?_
        refine xm rfl rfl rfl rfl ?_
        refine X_op' rfl (A_ixA (0 : Int) rfl rfl rfl rfl rfl rfl rfl (by omega) (by omega) rfl rfl) ?_
        refine X_op' rfl (A_ld rfl rfl rfl (ld_ip1 rfl rfl rfl)) ?_
        refine X_op' rfl (A_int rfl rfl rfl ⟨by decide, by decide⟩ rfl) ?_
        refine xm rfl rfl rfl rfl ?_
        refine X_both (d := 55) rfl (fun hb6 => ?_) (fun hb6 => ?_)
        ·have khb6 := hb6; (try simp only [kb] at khb6)
         refine X_no1 rfl rfl rfl hb6 ?_
         refine X_no1 rfl rfl rfl hb6 ?_
         refine X_no1 rfl rfl rfl hb6 ?_
         refine X_no1 rfl rfl rfl hb6 ?_
         refine X_no1 rfl rfl rfl hb6 ?_
         refine X_op' rfl (A_pickT rfl rfl hb6 rfl) ?_
         refine xm rfl rfl rfl rfl ?_
         refine X_no1 rfl rfl rfl rfl ?_
         refine X_no1 rfl rfl rfl rfl ?_
         refine X_no1 rfl rfl rfl rfl ?_
         refine X_no1 rfl rfl rfl rfl ?_
         refine X_no1 rfl rfl rfl rfl ?_
         refine X_op' rfl (A_pickT rfl rfl rfl rfl) ?_
         refine xm rfl rfl rfl rfl ?_
         refine X_no1 rfl rfl rfl rfl ?_
         refine X_no1 rfl rfl rfl rfl ?_
         refine X_no1 rfl rfl rfl rfl ?_
         refine X_no1 rfl rfl rfl rfl ?_
         refine X_no1 rfl rfl rfl rfl ?_
         refine X_op' rfl (A_pickT rfl rfl rfl rfl) ?_
         refine X_endS ?_
         try dsimp only [St.put, szA, List.length, Nat.reduceAdd]
         refine W_condT rfl rfl ?_
         refine wsr ?_
         refine X_op' rfl (A_build rfl rfl rfl .nil rfl rfl rfl) ?_
         refine X_op' rfl (A_build rfl rfl rfl .nil rfl rfl rfl) ?_
         refine X_op' rfl (A_stV rfl rfl rfl (V_t rfl) (K_t rfl) rfl rfl rfl rfl rfl rfl rfl) ?_
         refine X_op' rfl (A_stV rfl rfl rfl (V_t rfl) (K_t rfl) rfl rfl rfl rfl rfl rfl rfl) ?_
         refine xa rfl rfl rfl rfl ?_
         refine X_endS ?_
         try dsimp only [St.put, szA, List.length, Nat.reduceAdd]
         refine W_ret ?_
         refine Q_seqX ?_
         refine Q_blkR ?_
         refine Q_seqX ?_
         refine Q_rndR ?_
         refine Q_blkR ?_
         refine Q_seqX ?_
         simp only [Int.toNat_natCast, Int.toNat_zero, Nat.zero_add] at *
         have hO9 : exR xs lo hi is = none := if_neg fun hin => by have h := hin.2.2.2.2 0 (by omega); unfold inB at h; omega
         rw [hO9]
         exact end_R rfl (.c rfl (ld_mp rfl rfl rfl rfl rfl rfl) (.c rfl (ld_mp rfl rfl rfl rfl rfl rfl) (.t rfl .nil)))
        ·have khb6 := hb6; (try simp only [kb] at khb6)
         refine X_yes' rfl rfl rfl hb6 (A_mvT (.inl rfl) rfl rfl) ?_
         refine X_yes' rfl rfl rfl hb6 (A_mvT (.inl rfl) rfl rfl) ?_
         refine X_yes' rfl rfl rfl hb6 (A_ixA (0 : Int) rfl rfl rfl rfl rfl rfl rfl (by omega) (by omega) rfl rfl) ?_
         refine X_yes' rfl rfl rfl hb6 (A_ld rfl rfl rfl (ld_ip1 rfl rfl rfl)) ?_
         refine X_yes' rfl rfl rfl hb6 (A_int rfl rfl rfl ⟨by decide, by decide⟩ rfl) ?_
         refine X_op' rfl (A_pickF rfl rfl hb6 rfl) ?_
         refine xm rfl rfl rfl rfl ?_
         refine X_both (d := 62) rfl (fun hb7 => ?_) (fun hb7 => ?_)
         ·have khb7 := hb7; (try simp only [kb] at khb7)
          refine X_no1 rfl rfl rfl hb7 ?_
          refine X_no1 rfl rfl rfl hb7 ?_
          refine X_no1 rfl rfl rfl hb7 ?_
          refine X_no1 rfl rfl rfl hb7 ?_
          refine X_no1 rfl rfl rfl hb7 ?_
          refine X_op' rfl (A_pickT rfl rfl hb7 rfl) ?_
          refine xm rfl rfl rfl rfl ?_
          refine X_no1 rfl rfl rfl rfl ?_
          refine X_no1 rfl rfl rfl rfl ?_
          refine X_no1 rfl rfl rfl rfl ?_
          refine X_no1 rfl rfl rfl rfl ?_
          refine X_no1 rfl rfl rfl rfl ?_
          refine X_op' rfl (A_pickT rfl rfl rfl rfl) ?_
          refine X_endS ?_
          try dsimp only [St.put, szA, List.length, Nat.reduceAdd]
          refine W_condT rfl rfl ?_
          refine wsr ?_
          refine X_op' rfl (A_build rfl rfl rfl .nil rfl rfl rfl) ?_
          refine X_op' rfl (A_build rfl rfl rfl .nil rfl rfl rfl) ?_
          refine X_op' rfl (A_stV rfl rfl rfl (V_t rfl) (K_t rfl) rfl rfl rfl rfl rfl rfl rfl) ?_
          refine X_op' rfl (A_stV rfl rfl rfl (V_t rfl) (K_t rfl) rfl rfl rfl rfl rfl rfl rfl) ?_
          refine xa rfl rfl rfl rfl ?_
          refine X_endS ?_
          try dsimp only [St.put, szA, List.length, Nat.reduceAdd]
          refine W_ret ?_
          refine Q_seqX ?_
          refine Q_blkR ?_
          refine Q_seqX ?_
          refine Q_rndR ?_
          refine Q_blkR ?_
          refine Q_seqX ?_
          simp only [Int.toNat_natCast, Int.toNat_zero, Nat.zero_add] at *
          have hO9 : exR xs lo hi is = none := if_neg fun hin => by have h := hin.2.2.2.2 0 (by omega); unfold inB at h; omega
          rw [hO9]
          exact end_R rfl (.c rfl (ld_mp rfl rfl rfl rfl rfl rfl) (.c rfl (ld_mp rfl rfl rfl rfl rfl rfl) (.t rfl .nil)))
         ·have khb7 := hb7; (try simp only [kb] at khb7)
          refine X_yes' rfl rfl rfl hb7 (A_mvT (.inl rfl) rfl rfl) ?_
          refine X_yes' rfl rfl rfl hb7 (A_mvT (.inl rfl) rfl rfl) ?_
          refine X_yes' rfl rfl rfl hb7 (A_ixA (0 : Int) rfl rfl rfl rfl rfl rfl rfl (by omega) (by omega) rfl rfl) ?_
          refine X_yes' rfl rfl rfl hb7 (A_ld rfl rfl rfl (ld_ip1 rfl rfl rfl)) ?_
          refine X_yes' rfl rfl rfl hb7 (A_int rfl rfl rfl ⟨by decide, by decide⟩ rfl) ?_
          refine X_op' rfl (A_pickF rfl rfl hb7 rfl) ?_
          refine xm rfl rfl rfl rfl ?_
          refine X_both (d := 69) rfl (fun hb8 => ?_) (fun hb8 => ?_)
          ·have khb8 := hb8; (try simp only [kb] at khb8)
           refine X_no1 rfl rfl rfl hb8 ?_
           refine X_no1 rfl rfl rfl hb8 ?_
           refine X_no1 rfl rfl rfl hb8 ?_
           refine X_no1 rfl rfl rfl hb8 ?_
           refine X_no1 rfl rfl rfl hb8 ?_
           refine X_op' rfl (A_pickT rfl rfl hb8 rfl) ?_
           refine X_endS ?_
           try dsimp only [St.put, szA, List.length, Nat.reduceAdd]
           refine W_condT rfl rfl ?_
           refine wsr ?_
           refine X_op' rfl (A_build rfl rfl rfl .nil rfl rfl rfl) ?_
           refine X_op' rfl (A_build rfl rfl rfl .nil rfl rfl rfl) ?_
           refine X_op' rfl (A_stV rfl rfl rfl (V_t rfl) (K_t rfl) rfl rfl rfl rfl rfl rfl rfl) ?_
           refine X_op' rfl (A_stV rfl rfl rfl (V_t rfl) (K_t rfl) rfl rfl rfl rfl rfl rfl rfl) ?_
           refine xa rfl rfl rfl rfl ?_
           refine X_endS ?_
           try dsimp only [St.put, szA, List.length, Nat.reduceAdd]
           refine W_ret ?_
           refine Q_seqX ?_
           refine Q_blkR ?_
           refine Q_seqX ?_
           refine Q_rndR ?_
           refine Q_blkR ?_
           refine Q_seqX ?_
           simp only [Int.toNat_natCast, Int.toNat_zero, Nat.zero_add] at *
           have hO9 : exR xs lo hi is = none := if_neg fun hin => by have h := hin.2.2.2.2 0 (by omega); unfold inB at h; omega
           rw [hO9]
           exact end_R rfl (.c rfl (ld_mp rfl rfl rfl rfl rfl rfl) (.c rfl (ld_mp rfl rfl rfl rfl rfl rfl) (.t rfl .nil)))
          ·have khb8 := hb8; (try simp only [kb] at khb8)
           refine X_yes' rfl rfl rfl hb8 (A_mvT (.inl rfl) rfl rfl) ?_
           refine X_yes' rfl rfl rfl hb8 (A_mvT (.inl rfl) rfl rfl) ?_
           refine X_yes' rfl rfl rfl hb8 (A_ixA (0 : Int) rfl rfl rfl rfl rfl rfl rfl (by omega) (by omega) rfl rfl) ?_
           refine X_yes' rfl rfl rfl hb8 (A_ld rfl rfl rfl (ld_ip1 rfl rfl rfl)) ?_
           refine X_yes' rfl rfl rfl hb8 (A_int rfl rfl rfl ⟨by decide, by decide⟩ rfl) ?_
           refine X_op' rfl (A_pickF rfl rfl hb8 rfl) ?_
           refine X_endS ?_
           try dsimp only [St.put, szA, List.length, Nat.reduceAdd]
           refine W_condB rfl (fun hb9 => ?_) (fun hb9 => ?_)
           ·have khb9 := hb9; (try simp only [kb] at khb9)
            refine wsr ?_
            refine X_op' rfl (A_build rfl rfl rfl .nil rfl rfl rfl) ?_
            refine X_op' rfl (A_build rfl rfl rfl .nil rfl rfl rfl) ?_
            refine X_op' rfl (A_stV rfl rfl rfl (V_t rfl) (K_t rfl) rfl rfl rfl rfl rfl rfl rfl) ?_
            refine X_op' rfl (A_stV rfl rfl rfl (V_t rfl) (K_t rfl) rfl rfl rfl rfl rfl rfl rfl) ?_
            refine xa rfl rfl rfl rfl ?_
            refine X_endS ?_
            try dsimp only [St.put, szA, List.length, Nat.reduceAdd]
            refine W_ret ?_
            refine Q_seqX ?_
            refine Q_blkR ?_
            refine Q_seqX ?_
            refine Q_rndR ?_
            refine Q_blkR ?_
            refine Q_seqX ?_
            simp only [Int.toNat_natCast, Int.toNat_zero, Nat.zero_add] at *
            have hO9 : exR xs lo hi is = none := if_neg fun hin => by have h := hin.2.2.2.2 0 (by omega); unfold inB at h; omega
            rw [hO9]
            exact end_R rfl (.c rfl (ld_mp rfl rfl rfl rfl rfl rfl) (.c rfl (ld_mp rfl rfl rfl rfl rfl rfl) (.t rfl .nil)))
           ·have khb9 := hb9; (try simp only [kb] at khb9)
            refine W_skip ?_
            refine Q_seq ?_
            refine W_reg ?_
            refine X_op' rfl (A_mvN (.inl rfl) rfl) ?_
            refine xm rfl rfl rfl rfl ?_
            refine xm rfl rfl rfl rfl ?_
            refine X_op' rfl (A_ixA r0 rfl rfl rfl rfl rfl rfl rfl (by omega) (by omega) rfl rfl) ?_
            refine X_op' rfl (A_ld rfl rfl rfl (ld_ip3 rfl rfl rfl rfl rfl)) ?_
            refine X_op' rfl (A_callV rfl rfl rfl rfl (.cons (V_t rfl) (K_t rfl) .nil) (c23 (getD_ok w _) hn0 (by omega))) ?_
            refine X_op' rfl (A_bs rfl rfl rfl rfl rfl (.cons (V_t rfl) (K_t rfl) .nil) rfl rfl (by decide)) ?_
            refine X_op' rfl (A_apN1 rfl rfl rfl rfl rfl rfl rfl (V_m rfl rfl rfl rfl) rfl rfl rfl rfl (n := 0) rfl (by decide) (by decide)) ?_
            refine X_op' rfl (A_mvM (.inr rfl) rfl) ?_
            refine X_end ?_
            try dsimp only [St.put, szA, List.length, Nat.reduceAdd]
            refine Q_blkN ?_
            refine Q_seq ?_
            refine W_reg ?_
            refine xm rfl rfl rfl rfl ?_
            refine X_op' rfl (A_int rfl rfl rfl ⟨by decide, by decide⟩ (addI (by omega))) ?_
            refine xa rfl rfl rfl rfl ?_
            refine X_end ?_
            try dsimp only [St.put, szA, List.length, Nat.reduceAdd]
            simp only [Int.toNat_natCast, Int.toNat_zero, Nat.zero_add] at *
            exact ⟨nn - 1, by omega, 1, (fun j hj => if e : j = 0 then (by subst e; unfold inB; omega) else absurd hj (by omega)), .inr ⟨by omega, [(negR (xs.getD 0 r0)).t], (by rw [take_succ_r xs 0 (by omega)]; rfl), Eq.trans (b := st12b xs lo hi is [(negR (xs.getD 0 r0)).t] 1 1) (by kernel_rfl) rfl⟩, by omega⟩
       ·have khb5 := hb5; (try simp only [kb] at khb5)
        refine W_exit ?_
        refine Q_seqX ?_
        refine Q_rndX ?_
        refine Q_blkE ?_
        refine Q_seq ?_
        refine W_exit ?_
        have hx0 : xs.length = 0 := by omega
        obtain rfl : xs = [] := List.eq_nil_of_length_eq_zero hx0
        exact ⟨rfl, ⟨⟨by simp, by omega, by omega, by omega, fun i hi => absurd hi (by simp)⟩, rfl, rfl, rfl, rfl, rfl, rfl, rfl, rfl, rfl, rfl, rfl⟩⟩
      ·have hRl : R.length = i := by rw [hR, List.length_map, List.length_map, List.length_take]; omega
       refine W_seq ?_
       refine wsr ?_
       refine xm rfl rfl rfl rfl ?_
       refine xm rfl rfl rfl rfl ?_
       refine X_op' rfl (A_int rfl rfl rfl ⟨by decide, by decide⟩ rfl) ?_
       refine X_endS ?_
       try dsimp only [St.put, szA, List.length, Nat.reduceAdd]
       refine W_condB rfl (fun hb10 => ?_) (fun hb10 => ?_)
       ·have khb10 := hb10; (try simp only [kb] at khb10)
        refine W_skip ?_
        refine Q_seq ?_
        refine W_seq ?_
        refine W_blk ?_
        refine W_seq ?_
        refine wsr ?_
        refine xm rfl rfl rfl rfl ?_
        refine xm rfl rfl rfl rfl ?_
        refine X_op' rfl (A_ixA (0 : Int) rfl rfl rfl rfl rfl rfl rfl (by omega) (by omega) rfl rfl) ?_
        refine X_op' rfl (A_ld rfl rfl rfl (ld_ip1 rfl rfl rfl)) ?_
        refine X_op' rfl (A_int rfl rfl rfl ⟨by decide, by decide⟩ rfl) ?_
        refine xm rfl rfl rfl rfl ?_
        refine X_both (d := 55) rfl (fun hb11 => ?_) (fun hb11 => ?_)
        ·have khb11 := hb11; (try simp only [kb] at khb11)
         refine X_no1 rfl rfl rfl hb11 ?_
         refine X_no1 rfl rfl rfl hb11 ?_
         refine X_no1 rfl rfl rfl hb11 ?_
         refine X_no1 rfl rfl rfl hb11 ?_
         refine X_no1 rfl rfl rfl hb11 ?_
         refine X_op' rfl (A_pickT rfl rfl hb11 rfl) ?_
         refine xm rfl rfl rfl rfl ?_
         refine X_no1 rfl rfl rfl rfl ?_
         refine X_no1 rfl rfl rfl rfl ?_
         refine X_no1 rfl rfl rfl rfl ?_
         refine X_no1 rfl rfl rfl rfl ?_
         refine X_no1 rfl rfl rfl rfl ?_
         refine X_op' rfl (A_pickT rfl rfl rfl rfl) ?_
         refine xm rfl rfl rfl rfl ?_
         refine X_no1 rfl rfl rfl rfl ?_
         refine X_no1 rfl rfl rfl rfl ?_
         refine X_no1 rfl rfl rfl rfl ?_
         refine X_no1 rfl rfl rfl rfl ?_
         refine X_no1 rfl rfl rfl rfl ?_
         refine X_op' rfl (A_pickT rfl rfl rfl rfl) ?_
         refine X_endS ?_
         try dsimp only [St.put, szA, List.length, Nat.reduceAdd]
         refine W_condT rfl rfl ?_
         refine wsr ?_
         refine X_op' rfl (A_build rfl rfl rfl .nil rfl rfl rfl) ?_
         refine X_op' rfl (A_build rfl rfl rfl .nil rfl rfl rfl) ?_
         refine X_op' rfl (A_stV rfl rfl rfl (V_t rfl) (K_t rfl) rfl rfl rfl rfl rfl rfl rfl) ?_
         refine X_op' rfl (A_stV rfl rfl rfl (V_t rfl) (K_t rfl) rfl rfl rfl rfl rfl rfl rfl) ?_
         refine xa rfl rfl rfl rfl ?_
         refine X_endS ?_
         try dsimp only [St.put, szA, List.length, Nat.reduceAdd]
         refine W_ret ?_
         refine Q_seqX ?_
         refine Q_blkR ?_
         refine Q_seqX ?_
         refine Q_rndR ?_
         refine Q_blkR ?_
         refine Q_seqX ?_
         simp only [Int.toNat_natCast, Int.toNat_zero, Nat.zero_add] at *
         have hO9 : exR xs lo hi is = none := if_neg fun hin => by have h := hin.2.2.2.2 i (by omega); unfold inB at h; omega
         rw [hO9]
         exact end_R rfl (.c rfl (ld_mp rfl rfl rfl rfl rfl rfl) (.c rfl (ld_mp rfl rfl rfl rfl rfl rfl) (.t rfl .nil)))
        ·have khb11 := hb11; (try simp only [kb] at khb11)
         refine X_yes' rfl rfl rfl hb11 (A_mvT (.inl rfl) rfl rfl) ?_
         refine X_yes' rfl rfl rfl hb11 (A_mvT (.inl rfl) rfl rfl) ?_
         refine X_yes' rfl rfl rfl hb11 (A_ixA (0 : Int) rfl rfl rfl rfl rfl rfl rfl (by omega) (by omega) rfl rfl) ?_
         refine X_yes' rfl rfl rfl hb11 (A_ld rfl rfl rfl (ld_ip1 rfl rfl rfl)) ?_
         refine X_yes' rfl rfl rfl hb11 (A_int rfl rfl rfl ⟨by decide, by decide⟩ rfl) ?_
         refine X_op' rfl (A_pickF rfl rfl hb11 rfl) ?_
         refine xm rfl rfl rfl rfl ?_
         refine X_both (d := 62) rfl (fun hb12 => ?_) (fun hb12 => ?_)
         ·have khb12 := hb12; (try simp only [kb] at khb12)
          refine X_no1 rfl rfl rfl hb12 ?_
          refine X_no1 rfl rfl rfl hb12 ?_
          refine X_no1 rfl rfl rfl hb12 ?_
          refine X_no1 rfl rfl rfl hb12 ?_
          refine X_no1 rfl rfl rfl hb12 ?_
          refine X_op' rfl (A_pickT rfl rfl hb12 rfl) ?_
          refine xm rfl rfl rfl rfl ?_
          refine X_no1 rfl rfl rfl rfl ?_
          refine X_no1 rfl rfl rfl rfl ?_
          refine X_no1 rfl rfl rfl rfl ?_
          refine X_no1 rfl rfl rfl rfl ?_
          refine X_no1 rfl rfl rfl rfl ?_
          refine X_op' rfl (A_pickT rfl rfl rfl rfl) ?_
          refine X_endS ?_
          try dsimp only [St.put, szA, List.length, Nat.reduceAdd]
          refine W_condT rfl rfl ?_
          refine wsr ?_
          refine X_op' rfl (A_build rfl rfl rfl .nil rfl rfl rfl) ?_
          refine X_op' rfl (A_build rfl rfl rfl .nil rfl rfl rfl) ?_
          refine X_op' rfl (A_stV rfl rfl rfl (V_t rfl) (K_t rfl) rfl rfl rfl rfl rfl rfl rfl) ?_
          refine X_op' rfl (A_stV rfl rfl rfl (V_t rfl) (K_t rfl) rfl rfl rfl rfl rfl rfl rfl) ?_
          refine xa rfl rfl rfl rfl ?_
          refine X_endS ?_
          try dsimp only [St.put, szA, List.length, Nat.reduceAdd]
          refine W_ret ?_
          refine Q_seqX ?_
          refine Q_blkR ?_
          refine Q_seqX ?_
          refine Q_rndR ?_
          refine Q_blkR ?_
          refine Q_seqX ?_
          simp only [Int.toNat_natCast, Int.toNat_zero, Nat.zero_add] at *
          have hO9 : exR xs lo hi is = none := if_neg fun hin => by have h := hin.2.2.2.2 i (by omega); unfold inB at h; omega
          rw [hO9]
          exact end_R rfl (.c rfl (ld_mp rfl rfl rfl rfl rfl rfl) (.c rfl (ld_mp rfl rfl rfl rfl rfl rfl) (.t rfl .nil)))
         ·have khb12 := hb12; (try simp only [kb] at khb12)
          refine X_yes' rfl rfl rfl hb12 (A_mvT (.inl rfl) rfl rfl) ?_
          refine X_yes' rfl rfl rfl hb12 (A_mvT (.inl rfl) rfl rfl) ?_
          refine X_yes' rfl rfl rfl hb12 (A_ixA (0 : Int) rfl rfl rfl rfl rfl rfl rfl (by omega) (by omega) rfl rfl) ?_
          refine X_yes' rfl rfl rfl hb12 (A_ld rfl rfl rfl (ld_ip1 rfl rfl rfl)) ?_
          refine X_yes' rfl rfl rfl hb12 (A_int rfl rfl rfl ⟨by decide, by decide⟩ rfl) ?_
          refine X_op' rfl (A_pickF rfl rfl hb12 rfl) ?_
          refine xm rfl rfl rfl rfl ?_
          refine X_both (d := 69) rfl (fun hb13 => ?_) (fun hb13 => ?_)
          ·have khb13 := hb13; (try simp only [kb] at khb13)
           refine X_no1 rfl rfl rfl hb13 ?_
           refine X_no1 rfl rfl rfl hb13 ?_
           refine X_no1 rfl rfl rfl hb13 ?_
           refine X_no1 rfl rfl rfl hb13 ?_
           refine X_no1 rfl rfl rfl hb13 ?_
           refine X_op' rfl (A_pickT rfl rfl hb13 rfl) ?_
           refine X_endS ?_
           try dsimp only [St.put, szA, List.length, Nat.reduceAdd]
           refine W_condT rfl rfl ?_
           refine wsr ?_
           refine X_op' rfl (A_build rfl rfl rfl .nil rfl rfl rfl) ?_
           refine X_op' rfl (A_build rfl rfl rfl .nil rfl rfl rfl) ?_
           refine X_op' rfl (A_stV rfl rfl rfl (V_t rfl) (K_t rfl) rfl rfl rfl rfl rfl rfl rfl) ?_
           refine X_op' rfl (A_stV rfl rfl rfl (V_t rfl) (K_t rfl) rfl rfl rfl rfl rfl rfl rfl) ?_
           refine xa rfl rfl rfl rfl ?_
           refine X_endS ?_
           try dsimp only [St.put, szA, List.length, Nat.reduceAdd]
           refine W_ret ?_
           refine Q_seqX ?_
           refine Q_blkR ?_
           refine Q_seqX ?_
           refine Q_rndR ?_
           refine Q_blkR ?_
           refine Q_seqX ?_
           simp only [Int.toNat_natCast, Int.toNat_zero, Nat.zero_add] at *
           have hO9 : exR xs lo hi is = none := if_neg fun hin => by have h := hin.2.2.2.2 i (by omega); unfold inB at h; omega
           rw [hO9]
           exact end_R rfl (.c rfl (ld_mp rfl rfl rfl rfl rfl rfl) (.c rfl (ld_mp rfl rfl rfl rfl rfl rfl) (.t rfl .nil)))
          ·have khb13 := hb13; (try simp only [kb] at khb13)
           refine X_yes' rfl rfl rfl hb13 (A_mvT (.inl rfl) rfl rfl) ?_
           refine X_yes' rfl rfl rfl hb13 (A_mvT (.inl rfl) rfl rfl) ?_
           refine X_yes' rfl rfl rfl hb13 (A_ixA (0 : Int) rfl rfl rfl rfl rfl rfl rfl (by omega) (by omega) rfl rfl) ?_
           refine X_yes' rfl rfl rfl hb13 (A_ld rfl rfl rfl (ld_ip1 rfl rfl rfl)) ?_
           refine X_yes' rfl rfl rfl hb13 (A_int rfl rfl rfl ⟨by decide, by decide⟩ rfl) ?_
           refine X_op' rfl (A_pickF rfl rfl hb13 rfl) ?_
           refine X_endS ?_
           try dsimp only [St.put, szA, List.length, Nat.reduceAdd]
           refine W_condB rfl (fun hb14 => ?_) (fun hb14 => ?_)
           ·have khb14 := hb14; (try simp only [kb] at khb14)
            refine wsr ?_
            refine X_op' rfl (A_build rfl rfl rfl .nil rfl rfl rfl) ?_
            refine X_op' rfl (A_build rfl rfl rfl .nil rfl rfl rfl) ?_
            refine X_op' rfl (A_stV rfl rfl rfl (V_t rfl) (K_t rfl) rfl rfl rfl rfl rfl rfl rfl) ?_
            refine X_op' rfl (A_stV rfl rfl rfl (V_t rfl) (K_t rfl) rfl rfl rfl rfl rfl rfl rfl) ?_
            refine xa rfl rfl rfl rfl ?_
            refine X_endS ?_
            try dsimp only [St.put, szA, List.length, Nat.reduceAdd]
            refine W_ret ?_
            refine Q_seqX ?_
            refine Q_blkR ?_
            refine Q_seqX ?_
            refine Q_rndR ?_
            refine Q_blkR ?_
            refine Q_seqX ?_
            simp only [Int.toNat_natCast, Int.toNat_zero, Nat.zero_add] at *
            have hO9 : exR xs lo hi is = none := if_neg fun hin => by have h := hin.2.2.2.2 i (by omega); unfold inB at h; omega
            rw [hO9]
            exact end_R rfl (.c rfl (ld_mp rfl rfl rfl rfl rfl rfl) (.c rfl (ld_mp rfl rfl rfl rfl rfl rfl) (.t rfl .nil)))
           ·have khb14 := hb14; (try simp only [kb] at khb14)
            refine W_skip ?_
            refine Q_seq ?_
            refine W_reg ?_
            refine X_op' rfl (A_mvM (.inl rfl) rfl) ?_
            refine xm rfl rfl rfl rfl ?_
            refine xm rfl rfl rfl rfl ?_
            refine X_op' rfl (A_ixA r0 rfl rfl rfl rfl rfl rfl rfl (by omega) (by omega) rfl rfl) ?_
            refine X_op' rfl (A_ld rfl rfl rfl (ld_ip3 rfl rfl rfl rfl rfl)) ?_
            refine X_op' rfl (A_callV rfl rfl rfl rfl (.cons (V_t rfl) (K_t rfl) .nil) (c23 (getD_ok w _) hn0 (by omega))) ?_
            refine X_op' rfl (A_bs rfl rfl rfl rfl rfl (.cons (V_t rfl) (K_t rfl) .nil) rfl rfl (by decide)) ?_
            refine X_op' rfl (A_apO rfl rfl rfl rfl rfl rfl rfl (V_m rfl rfl rfl rfl) rfl rfl rfl rfl rfl rfl rfl rfl hRl (by show i + 1 ≤ 9223372036854775807; omega) (by show (i + 1) * 56 ≤ 140737488355328; omega)) ?_
            refine X_op' rfl (A_mvM (.inr rfl) rfl) ?_
            refine X_end ?_
            try dsimp only [St.put, szA, List.length, Nat.reduceAdd]
            refine Q_blkN ?_
            refine Q_seq ?_
            refine W_reg ?_
            refine xm rfl rfl rfl rfl ?_
            refine X_op' rfl (A_int rfl rfl rfl ⟨by decide, by decide⟩ (addI (by omega))) ?_
            refine xa rfl rfl rfl rfl ?_
            refine X_end ?_
            try dsimp only [St.put, szA, List.length, Nat.reduceAdd]
            simp only [Int.toNat_natCast, Int.toNat_zero, Nat.zero_add] at *
            exact ⟨nn - 1, by omega, i + 1, (fun j hj => if e : j = i then (by subst e; unfold inB; omega) else hI j (by omega)), .inr ⟨by omega, R ++ [(negR (xs.getD i r0)).t], (by rw [take_succ_r xs i (by omega), List.map_append, List.map_append, hR]; rfl), Eq.trans (b := st12b xs lo hi is (R ++ [(negR (xs.getD i r0)).t]) (i + 1) ((i : Int) + 1)) (by kernel_rfl) rfl⟩, by omega⟩
       ·have khb10 := hb10; (try simp only [kb] at khb10)
        refine W_exit ?_
        refine Q_seqX ?_
        refine Q_rndX ?_
        refine Q_blkE ?_
        refine Q_seq ?_
        refine W_exit ?_
        obtain rfl : i = xs.length := by omega
        obtain rfl : R = (xs.map negR).map Rr.t := by rw [hR, List.take_length]
        exact ⟨rfl, ⟨⟨by omega, by omega, by omega, by omega, hI⟩, rfl, rfl, rfl, rfl, rfl, rfl, rfl, rfl, V_m (q := ⟨30, 3, (xs.map negR).map Rr.t⟩) (ev := fun _ => .ms 2 3 0 xs.length) (x := .const (.int .i64 0)) rfl rfl rfl (by rw [List.length_map, List.length_map]), rfl, rfl⟩⟩
set_option maxHeartbeats 8000000 in
theorem post12 {n : Nat} {xs : List Rr} {lo hi is : List Int} (w : ∀ x ∈ xs, x.ok n) (hn0 : 0 < n) (hn : n ≤ 100000) (hx : xs.length ≤ 1000000) (g1 : lo.length ≤ 1000000) (g2 : hi.length ≤ 1000000) (g3 : is.length ≤ 1000000) (hin : inE xs lo hi is) (fuel : Nat) (hf : 1099511627776 < fuel) (c : Code) (hc : Tryz.f12.body = some c) (mm : List (Nat × Option O)) (nx : Nat) (m0 : lookM mm 0 = some ⟨30, 3, [zT]⟩) (m1 : lookM mm 1 = some ⟨30, 3, [zT]⟩) :
    WC ty sp12 0 keep12 fuel (cPost 5 c) 0 { tm := [(0, .t (tl xs)), (1, .t (ti lo)), (2, .t (ti hi)), (3, .t (ti is)), (8, .mp 0 3 0 0), (9, .mp 1 3 0 0), (10, .t (.v (.bool false))), (11, .t (ii ((xs.map Rr.t).length : Int))), (12, .t (tl (xs.map negR)))], mm := mm, nx := nx } (EndQ ty false Tryz.f12.results (ret12 xs.length (exR xs lo hi is))) := by
  injection hc with hc
  subst hc
  have el : (xs.map Rr.t).length = xs.length := List.length_map _
  have e3 : (is.map ii).length = is.length := List.length_map _
  obtain ⟨hN, l1, l2, l3, hI⟩ := id hin
  have hok := ok35_of w hn0 (by omega) hin
  rw [show exR xs lo hi is = _ from if_pos hin]
  generalize hO : rX (tF xs) (tF (xs.map negR)) (iF lo) (iF hi) (iF is) xs.length xs.length 0 0 0 = O
  have h0st : { tm := [(0, .t (tl xs)), (1, .t (ti lo)), (2, .t (ti hi)), (3, .t (ti is)), (8, .mp 0 3 0 0), (9, .mp 1 3 0 0), (10, .t (.v (.bool false))), (11, .t (ii ((xs.map Rr.t).length : Int))), (12, .t (tl (xs.map negR))), (14, .t (ii 0))], mm := [(0, lookM mm 0), (1, lookM mm 1)], nx := 2 } = st12c xs lo hi is false 0 0 (0 : Nat) := by rw [m0, m1]; rfl
  refine W_seq ?_
  refine wsr ?_
  refine xa rfl rfl rfl rfl ?_
  refine X_endS ?_
  try dsimp only [St.put, szA, List.length, Nat.reduceAdd]
  refine W_blk ?_
  refine W_loop (fun nn σ => ∃ (i : Nat) (b : Bool) (le mo : Rat), b = decide (0 < i) ∧ (b = false → le = 0) ∧ (b = false → mo = 0) ∧ rX (tF xs) (tF (xs.map negR)) (iF lo) (iF hi) (iF is) xs.length nn i le mo = O ∧ Fit (1 + i * (KK n + 1)) le ∧ Fit (1 + i * (KK n + 1)) mo ∧ σ = st12c xs lo hi is b le mo i ∧ nn + i = xs.length) (xs.length) ?_ ⟨0, false, 0, 0, rfl, fun _ => rfl, fun _ => rfl, hO, fit_zero (by omega), fit_zero (by omega), h0st, rfl⟩ (by omega)
  rintro nn _ ⟨i, b, le, mo, hb, h0b, h1b, hG, hm0, hm1, rfl, hnn⟩
  refine W_seq ?_
  refine wsr ?_
  refine xm rfl rfl rfl rfl ?_
  refine xm rfl rfl rfl rfl ?_
  refine X_op' rfl (A_int rfl rfl rfl ⟨by decide, by decide⟩ rfl) ?_
  refine X_endS ?_
  try dsimp only [St.put, szA, List.length, Nat.reduceAdd]
  refine W_condB rfl (fun hb1 => ?_) (fun hb1 => ?_)
  ·have khb1 := hb1; (try simp only [kb] at khb1)
   refine W_skip ?_
   refine Q_seq ?_
   refine W_seq ?_
   refine W_blk ?_
   refine wsr ?_
   refine xa rfl rfl rfl rfl ?_
   refine X_endS ?_
   try dsimp only [St.put, szA, List.length, Nat.reduceAdd]
   refine W_seq ?_
   refine wsr ?_
   refine xa rfl rfl rfl rfl ?_
   refine X_endS ?_
   try dsimp only [St.put, szA, List.length, Nat.reduceAdd]
   refine W_blk ?_
   refine W_loop (fun n2 σ => ∃ j : Nat, σ = st12d xs lo hi is b le mo i (fB is i j) j ∧ n2 + j = i) (i) ?_ ⟨0, Eq.trans (b := st12d xs lo hi is b le mo i true 0) (by kernel_rfl) (by rw [show fB is i 0 = true from decide_eq_true (fun l hl => absurd hl (by omega))]; rfl), rfl⟩ (by omega)
   rintro n2 _ ⟨j, rfl, hn2⟩
   refine W_seq ?_
   refine wsr ?_
   refine xm rfl rfl rfl rfl ?_
   refine xm rfl rfl rfl rfl ?_
   refine X_op' rfl (A_int rfl rfl rfl ⟨by decide, by decide⟩ rfl) ?_
   refine X_endS ?_
   try dsimp only [St.put, szA, List.length, Nat.reduceAdd]
   refine W_condB rfl (fun hb2 => ?_) (fun hb2 => ?_)
   ·have khb2 := hb2; (try simp only [kb] at khb2)
    refine W_skip ?_
    refine Q_seq ?_
    refine W_seq ?_
    refine W_blk ?_
    refine W_reg ?_
    refine xm rfl rfl rfl rfl ?_
    refine xm rfl rfl rfl rfl ?_
    refine X_both (d := 97) rfl (fun hb91 => ?_) (fun hb91 => ?_)
    ·have khb91 := hb91; (try simp only [kb] at khb91)
     refine X_yes' rfl rfl rfl hb91 (A_mvT (.inl rfl) rfl rfl) ?_
     refine X_yes' rfl rfl rfl hb91 (A_mvT (.inl rfl) rfl rfl) ?_
     refine X_yes' rfl rfl rfl hb91 (A_ixA (0 : Int) rfl rfl rfl rfl rfl rfl rfl (by omega) (by omega) rfl rfl) ?_
     refine X_yes' rfl rfl rfl hb91 (A_ld rfl rfl rfl (ld_ip1 rfl rfl rfl)) ?_
     refine X_yes' rfl rfl rfl hb91 (A_mvT (.inl rfl) rfl rfl) ?_
     refine X_yes' rfl rfl rfl hb91 (A_mvT (.inl rfl) rfl rfl) ?_
     refine X_yes' rfl rfl rfl hb91 (A_ixA (0 : Int) rfl rfl rfl rfl rfl rfl rfl (by omega) (by omega) rfl rfl) ?_
     refine X_yes' rfl rfl rfl hb91 (A_ld rfl rfl rfl (ld_ip1 rfl rfl rfl)) ?_
     refine X_yes' rfl rfl rfl hb91 (A_int rfl rfl rfl ⟨by decide, by decide⟩ rfl) ?_
     refine X_op' rfl (A_pickT rfl rfl hb91 rfl) ?_
     refine xa rfl rfl rfl rfl ?_
     refine X_endD (by kernel_rfl) (by kernel_rfl) ?_
     try dsimp only [St.put, szA, List.length, Nat.reduceAdd]
     refine Q_blkN ?_
     refine Q_seq ?_
     refine W_reg ?_
     refine xm rfl rfl rfl rfl ?_
     refine X_op' rfl (A_int rfl rfl rfl ⟨by decide, by decide⟩ (addI (by omega))) ?_
     refine xa rfl rfl rfl rfl ?_
     refine X_end ?_
     try dsimp only [St.put, szA, List.length, Nat.reduceAdd]
     try simp only [Int.toNat_natCast, Nat.zero_add] at *
     exact ⟨n2 - 1, by omega, j + 1, Eq.trans (b := st12d xs lo hi is b le mo i (is.getD j 0 != is.getD i 0) ((j : Int) + 1)) (by kernel_rfl) (by rw [fB_succ, hb91]; rfl), by omega⟩
    ·have khb91 := hb91; (try simp only [kb] at khb91)
     refine X_no1 rfl rfl rfl hb91 ?_
     refine X_no1 rfl rfl rfl hb91 ?_
     refine X_no1 rfl rfl rfl hb91 ?_
     refine X_no1 rfl rfl rfl hb91 ?_
     refine X_no1 rfl rfl rfl hb91 ?_
     refine X_no1 rfl rfl rfl hb91 ?_
     refine X_no1 rfl rfl rfl hb91 ?_
     refine X_no1 rfl rfl rfl hb91 ?_
     refine X_no1 rfl rfl rfl hb91 ?_
     refine X_op' rfl (A_pickF rfl rfl hb91 rfl) ?_
     refine xa rfl rfl rfl rfl ?_
     refine X_endD (by kernel_rfl) (by kernel_rfl) ?_
     try dsimp only [St.put, szA, List.length, Nat.reduceAdd]
     refine Q_blkN ?_
     refine Q_seq ?_
     refine W_reg ?_
     refine xm rfl rfl rfl rfl ?_
     refine X_op' rfl (A_int rfl rfl rfl ⟨by decide, by decide⟩ (addI (by omega))) ?_
     refine xa rfl rfl rfl rfl ?_
     refine X_end ?_
     try dsimp only [St.put, szA, List.length, Nat.reduceAdd]
     try simp only [Int.toNat_natCast, Nat.zero_add] at *
     exact ⟨n2 - 1, by omega, j + 1, Eq.trans (b := st12d xs lo hi is b le mo i false ((j : Int) + 1)) (by kernel_rfl) (by rw [fB_succ, hb91]; rfl), by omega⟩
   ·have khb2 := hb2; (try simp only [kb] at khb2)
    refine W_exit ?_
    refine Q_seqX ?_
    refine Q_rndX ?_
    refine Q_blkE ?_
    refine Q_seq ?_
    refine W_seq ?_
    refine wsr ?_
    refine xm rfl rfl rfl rfl ?_
    refine X_op' rfl (A_not rfl rfl) ?_
    refine X_endS ?_
    try dsimp only [St.put, szA, List.length, Nat.reduceAdd]
    refine W_condB rfl (fun hb4 => ?_) (fun hb4 => ?_)
    ·have khb4 := hb4; (try simp only [kb] at khb4)
     refine W_exit ?_
     refine Q_seqX ?_
     refine Q_blkE ?_
     refine Q_seq ?_
     refine W_reg ?_
     refine xm rfl rfl rfl rfl ?_
     refine X_op' rfl (A_int rfl rfl rfl ⟨by decide, by decide⟩ (addI (by omega))) ?_
     refine xa rfl rfl rfl rfl ?_
     refine X_end ?_
     try dsimp only [St.put, szA, List.length, Nat.reduceAdd]
     obtain rfl : j = i := by omega
     have hs9 : NumA.seen (iF is) j j = true := by rw [fB_seen]; exact hb4
     obtain ⟨f, rfl⟩ : ∃ f, nn = f + 1 := ⟨nn - 1, by omega⟩
     simp only [rX] at hG
     rw [if_pos hs9] at hG
     have hj0 : 0 < j := by
       by_cases e : j = 0
       · subst e; simp [NumA.seen] at hs9
       · omega
     exact ⟨f, by omega, j + 1, b, le, mo, by rw [hb]; simp [hj0], h0b, h1b, hG, fit_acu hm0, fit_acu hm1, Eq.trans (b := st12c xs lo hi is b le mo ((j : Int) + 1)) (by kernel_rfl) rfl, by omega⟩
    ·have khb4 := hb4; (try simp only [kb] at khb4)
     refine W_skip ?_
     refine Q_seq ?_
     refine wsr ?_
     refine xm rfl rfl rfl rfl ?_
     refine xm rfl rfl rfl rfl ?_
     refine xm rfl rfl rfl rfl ?_
     refine xm rfl rfl rfl rfl ?_
     refine xm rfl rfl rfl rfl ?_
     refine xm rfl rfl rfl rfl ?_
     refine X_op' rfl (A_ixA (0 : Int) rfl rfl rfl rfl rfl rfl rfl (by omega) (by omega) rfl rfl) ?_
     refine X_op' rfl (A_ld rfl rfl rfl (ld_ip1 rfl rfl rfl)) ?_
     obtain ⟨R1, hR1⟩ : ∃ R1, rG (tF xs) (iF lo) (iF hi) (iF is) xs.length (is.getD ((i : Int)).toNat 0) = R1 := ⟨_, rfl⟩
     refine X_op' rfl (A_callV rfl rfl rfl rfl (.cons (V_t rfl) (K_t rfl) (.cons (V_t rfl) (K_t rfl) (.cons (V_t rfl) (K_t rfl) (.cons (V_t rfl) (K_t rfl) (.cons (V_t rfl) (K_t rfl) .nil))))) (cc37 hok hR1)) ?_
     refine X_op' rfl (A_mvU (.inl rfl) rfl) ?_
     refine X_op' rfl (A_ext rfl rfl rfl) ?_
     refine X_op' rfl (A_ext rfl rfl rfl) ?_
     refine X_op' rfl (A_alloc rfl rfl) ?_
     refine X_op' rfl (A_stV rfl rfl rfl (V_t rfl) (K_t rfl) rfl rfl rfl rfl rfl rfl rfl) ?_
     refine xa rfl rfl rfl rfl ?_
     refine X_endS ?_
     try dsimp only [St.put, szA, List.length, Nat.reduceAdd]
     refine wsr ?_
     refine xm rfl rfl rfl rfl ?_
     refine xm rfl rfl rfl rfl ?_
     refine xm rfl rfl rfl rfl ?_
     refine xm rfl rfl rfl rfl ?_
     refine xm rfl rfl rfl rfl ?_
     refine xm rfl rfl rfl rfl ?_
     refine X_op' rfl (A_ixA (0 : Int) rfl rfl rfl rfl rfl rfl rfl (by omega) (by omega) rfl rfl) ?_
     refine X_op' rfl (A_ld rfl rfl rfl (ld_ip1 rfl rfl rfl)) ?_
     obtain ⟨R2, hR2⟩ : ∃ R2, rG (tF (xs.map negR)) (iF lo) (iF hi) (iF is) xs.length (is.getD ((i : Int)).toNat 0) = R2 := ⟨_, rfl⟩
     refine X_op' rfl (A_callV rfl rfl rfl rfl (.cons (V_t rfl) (K_t rfl) (.cons (V_t rfl) (K_t rfl) (.cons (V_t rfl) (K_t rfl) (.cons (V_t rfl) (K_t rfl) (.cons (V_t rfl) (K_t rfl) .nil))))) (cc37n hok hR2)) ?_
     refine X_op' rfl (A_mvU (.inl rfl) rfl) ?_
     refine X_op' rfl (A_ext rfl rfl rfl) ?_
     refine X_op' rfl (A_ext rfl rfl rfl) ?_
     refine X_op' rfl (A_alloc rfl rfl) ?_
     refine X_op' rfl (A_stV rfl rfl rfl (V_t rfl) (K_t rfl) rfl rfl rfl rfl rfl rfl rfl) ?_
     refine xa rfl rfl rfl rfl ?_
     refine X_endS ?_
     try dsimp only [St.put, szA, List.length, Nat.reduceAdd]
     refine W_seq ?_
     refine wsr ?_
     refine xm rfl rfl rfl rfl ?_
     refine X_op' rfl (A_not rfl rfl) ?_
     refine xm rfl rfl rfl rfl ?_
     refine X_both (d := 136) rfl (fun hb7 => ?_) (fun hb7 => ?_)
     ·have khb7 := hb7; (try simp only [kb] at khb7)
      refine X_no1 rfl rfl rfl hb7 ?_
      refine X_no1 rfl rfl rfl hb7 ?_
      refine X_op' rfl (A_pickT rfl rfl hb7 rfl) ?_
      refine X_endS ?_
      try dsimp only [St.put, szA, List.length, Nat.reduceAdd]
      refine W_condT rfl rfl ?_
      refine wsr ?_
      refine X_op' rfl (A_build rfl rfl rfl .nil rfl rfl rfl) ?_
      refine X_op' rfl (A_build rfl rfl rfl .nil rfl rfl rfl) ?_
      refine X_op' rfl (A_stV rfl rfl rfl (V_t rfl) (K_t rfl) rfl rfl rfl rfl rfl rfl rfl) ?_
      refine X_op' rfl (A_stV rfl rfl rfl (V_t rfl) (K_t rfl) rfl rfl rfl rfl rfl rfl rfl) ?_
      refine xa rfl rfl rfl rfl ?_
      refine X_endS ?_
      try dsimp only [St.put, szA, List.length, Nat.reduceAdd]
      refine W_ret ?_
      refine Q_seqX ?_
      refine Q_blkR ?_
      refine Q_seqX ?_
      refine Q_rndR ?_
      refine Q_blkR ?_
      refine Q_seqX ?_
      obtain rfl : j = i := by omega
      have hs9 : ¬ NumA.seen (iF is) j j = true := by rw [fB_seen]; simpa using hb4
      obtain ⟨f, rfl⟩ : ∃ f, nn = f + 1 := ⟨nn - 1, by omega⟩
      simp only [rX] at hG
      rw [if_neg hs9] at hG
      have hO9 : O = none := by
        rw [show iF is j = is.getD ((j : Int)).toNat 0 from rfl, hR1, hR2] at hG
        rw [isT_no (o := R1) (by simpa using khb7)] at hG
        exact hG.symm
      subst hO9
      exact end_R rfl (.c rfl (ld_mp rfl rfl rfl rfl rfl rfl) (.c rfl (ld_mp rfl rfl rfl rfl rfl rfl) (.t rfl .nil)))
     ·have khb7 := hb7; (try simp only [kb] at khb7)
      refine X_yes' rfl rfl rfl hb7 (A_mvT (.inl rfl) rfl rfl) ?_
      refine X_yes' rfl rfl rfl hb7 (A_not rfl rfl) ?_
      refine X_op' rfl (A_pickF rfl rfl hb7 rfl) ?_
      refine X_endS ?_
      try dsimp only [St.put, szA, List.length, Nat.reduceAdd]
      refine W_condB rfl (fun hb8 => ?_) (fun hb8 => ?_)
      ·have khb8 := hb8; (try simp only [kb] at khb8)
       refine wsr ?_
       refine X_op' rfl (A_build rfl rfl rfl .nil rfl rfl rfl) ?_
       refine X_op' rfl (A_build rfl rfl rfl .nil rfl rfl rfl) ?_
       refine X_op' rfl (A_stV rfl rfl rfl (V_t rfl) (K_t rfl) rfl rfl rfl rfl rfl rfl rfl) ?_
       refine X_op' rfl (A_stV rfl rfl rfl (V_t rfl) (K_t rfl) rfl rfl rfl rfl rfl rfl rfl) ?_
       refine xa rfl rfl rfl rfl ?_
       refine X_endS ?_
       try dsimp only [St.put, szA, List.length, Nat.reduceAdd]
       refine W_ret ?_
       refine Q_seqX ?_
       refine Q_blkR ?_
       refine Q_seqX ?_
       refine Q_rndR ?_
       refine Q_blkR ?_
       refine Q_seqX ?_
       obtain rfl : j = i := by omega
       have hs9 : ¬ NumA.seen (iF is) j j = true := by rw [fB_seen]; simpa using hb4
       obtain ⟨f, rfl⟩ : ∃ f, nn = f + 1 := ⟨nn - 1, by omega⟩
       simp only [rX] at hG
       rw [if_neg hs9] at hG
       have hO9 : O = none := by
         rw [show iF is j = is.getD ((j : Int)).toNat 0 from rfl, hR1, hR2] at hG
         rw [isT_no (o := R2) (by simpa using khb8)] at hG
         cases h9 : isT R1 with
         | none => rw [h9] at hG; exact hG.symm
         | some v => rw [h9] at hG; exact hG.symm
       subst hO9
       exact end_R rfl (.c rfl (ld_mp rfl rfl rfl rfl rfl rfl) (.c rfl (ld_mp rfl rfl rfl rfl rfl rfl) (.t rfl .nil)))
      ·have khb8 := hb8; (try simp only [kb] at khb8)
       refine W_skip ?_
       refine Q_seq ?_
       refine W_reg ?_
       have k1 : (R1.map (·.2)).getD false = true := by simpa using khb7
       have k2 : (R2.map (·.2)).getD false = true := by simpa using khb8
       obtain ⟨⟨a1, c1⟩, rfl⟩ : ∃ p, R1 = some p := by
         cases R1 with
         | none => cases k1
         | some p => exact ⟨p, rfl⟩
       obtain ⟨⟨a2, c2⟩, rfl⟩ : ∃ p, R2 = some p := by
         cases R2 with
         | none => cases k2
         | some p => exact ⟨p, rfl⟩
       have hq1 : Fit (KK n) a1 := rG35_fit hok (k0 := is.getD ((i : Int)).toNat 0) (by rw [hR1]; exact isT_eq k1)
       have hq2 : Fit (KK n) a2 := rG35_fit (ok35_neg hok) (k0 := is.getD ((i : Int)).toNat 0) (by rw [List.length_map, hR2]; exact isT_eq k2)
       refine X_op' rfl (A_ld rfl rfl rfl (ld_mp rfl rfl rfl rfl rfl rfl)) ?_
       refine X_op' rfl (A_ld rfl rfl rfl (ld_mp rfl rfl rfl rfl rfl rfl)) ?_
       refine X_op' rfl (A_callV rfl rfl rfl rfl (.cons (V_t rfl) (K_t rfl) (.cons (V_t rfl) (K_t rfl) .nil)) (acc_add h1b hm1 hq1 (by omega) hn)) ?_
       refine X_op' rfl (A_ld rfl rfl rfl (ld_mp rfl rfl rfl rfl rfl rfl)) ?_
       refine X_op' rfl (A_ld rfl rfl rfl (ld_mp rfl rfl rfl rfl rfl rfl)) ?_
       refine X_op' rfl (A_callV rfl rfl rfl rfl (.cons (V_t rfl) (K_t rfl) (.cons (V_t rfl) (K_t rfl) .nil)) (acc_sub h0b hm0 hq2 (by omega) hn)) ?_
       refine X_op' rfl (A_stV rfl rfl rfl (V_t rfl) (K_t rfl) rfl rfl rfl rfl rfl rfl rfl) ?_
       refine X_op' rfl (A_stV rfl rfl rfl (V_t rfl) (K_t rfl) rfl rfl rfl rfl rfl rfl rfl) ?_
       refine X_endD (by kernel_rfl) (by kernel_rfl) ?_
       try dsimp only [St.put, szA, List.length, Nat.reduceAdd]
       refine Q_blkN ?_
       refine Q_seq ?_
       refine W_reg ?_
       refine xm rfl rfl rfl rfl ?_
       refine X_op' rfl (A_int rfl rfl rfl ⟨by decide, by decide⟩ (addI (by omega))) ?_
       refine xa rfl rfl rfl rfl ?_
       refine X_end ?_
       try dsimp only [St.put, szA, List.length, Nat.reduceAdd]
       obtain rfl : j = i := by omega
       have hs9 : ¬ NumA.seen (iF is) j j = true := by rw [fB_seen]; simpa using hb4
       obtain ⟨f, rfl⟩ : ∃ f, nn = f + 1 := ⟨nn - 1, by omega⟩
       simp only [rX] at hG
       rw [if_neg hs9] at hG
       have i1 : isT (rG (tF xs) (iF lo) (iF hi) (iF is) xs.length (iF is j)) = some a1 := by rw [show iF is j = is.getD ((j : Int)).toNat 0 from rfl, hR1]; exact isT_eq k1
       have i2 : isT (rG (tF (xs.map negR)) (iF lo) (iF hi) (iF is) xs.length (iF is j)) = some a2 := by rw [show iF is j = is.getD ((j : Int)).toNat 0 from rfl, hR2]; exact isT_eq k2
       rw [i1, i2] at hG
       exact ⟨f, by omega, j + 1, true, le - a2, mo + a1, by simp, fun h => (by cases h), fun h => (by cases h), hG, fit_acc' hm0 hq2, fit_acc hm1 hq1, Eq.trans (b := st12c xs lo hi is true (le - a2) (mo + a1) ((j : Int) + 1)) (by kernel_rfl) rfl, by omega⟩
  ·have khb1 := hb1; (try simp only [kb] at khb1)
   refine W_exit ?_
   refine Q_seqX ?_
   refine Q_rndX ?_
   refine Q_blkE ?_
   refine Q_seq ?_
   refine wsr ?_
   refine X_op' rfl (A_ld rfl rfl rfl (ld_mp rfl rfl rfl rfl rfl rfl)) ?_
   refine X_op' rfl (A_ld rfl rfl rfl (ld_mp rfl rfl rfl rfl rfl rfl)) ?_
   refine X_op' rfl (A_stV rfl rfl rfl (V_t rfl) (K_t rfl) rfl rfl rfl rfl rfl rfl rfl) ?_
   refine X_op' rfl (A_stV rfl rfl rfl (V_t rfl) (K_t rfl) rfl rfl rfl rfl rfl rfl rfl) ?_
   refine xa rfl rfl rfl rfl ?_
   refine X_endDS (by kernel_rfl) (by kernel_rfl) ?_
   try dsimp only [St.put, szA, List.length, Nat.reduceAdd]
   refine W_ret ?_
   obtain rfl : i = xs.length := by omega
   obtain rfl : nn = 0 := by omega
   simp only [rX] at hG
   subst hG
   subst hb
   exact end_R rfl (.c rfl (ld_mp rfl rfl rfl rfl rfl rfl) (.c rfl (ld_mp rfl rfl rfl rfl rfl rfl) (.t rfl .nil)))
theorem fin12 {n : Nat} {xs : List Rr} {lo hi is : List Int} (w : ∀ x ∈ xs, x.ok n) (hn0 : 0 < n) (hn : n ≤ 100000) (hx : xs.length ≤ 1000000) (g1 : lo.length ≤ 1000000) (g2 : hi.length ≤ 1000000) (g3 : is.length ≤ 1000000) {w0 : World} {okA : Nat → Prop} {ρ0 : Nat → Nat} {a : Act} {w' : World}
    (hr : RelS w0 okA ⟨0, ρ0⟩ Tryz.f12.ntmps { tm := [tl xs, ti lo, ti hi, ti is].zipIdx.map fun p => (p.2, .t p.1), mm := [], nx := 0 } a w') :
    (Tryz.f12.body.getD .skip).wp Tryz.prog (FinQ ty w0 okA ⟨0, ρ0⟩ Tryz.f12.ntmps Tryz.f12.results (ret12 xs.length (exR xs lo hi is))) a w' := by
  refine cut_run (F := ⟨0, ρ0⟩) (k := 5) (bid := 0) mixed ty_ok hs12 (pre12 w hn0 hn hx g1 g2 g3 4398046511104 (by decide) _ rfl) (by kernel_rfl) (by kernel_rfl) hr fun σ' ρ a' w2 hX hrel => ?_
  have hf := hrel.freeze (σ' := { tm := [(0, .t (tl xs)), (1, .t (ti lo)), (2, .t (ti hi)), (3, .t (ti is)), (8, .mp 0 3 0 0), (9, .mp 1 3 0 0), (10, .t (.v (.bool false))), (11, .t (ii ((xs.map Rr.t).length : Int))), (12, .t (tl (xs.map negR)))], mm := kills (look σ'.tm 12) ++ σ'.mm, nx := σ'.nx }) 12 (tl (xs.map negR)) hX.t12 rfl (fun t => by
    by_cases e0 : t = 0
    · subst e0; exact .inr (.inl hX.t0.symm)
    by_cases e1 : t = 1
    · subst e1; exact .inr (.inl hX.t1.symm)
    by_cases e2 : t = 2
    · subst e2; exact .inr (.inl hX.t2.symm)
    by_cases e3 : t = 3
    · subst e3; exact .inr (.inl hX.t3.symm)
    by_cases e8 : t = 8
    · subst e8; exact .inr (.inl hX.t8.symm)
    by_cases e9 : t = 9
    · subst e9; exact .inr (.inl hX.t9.symm)
    by_cases e10 : t = 10
    · subst e10; exact .inr (.inl hX.t10.symm)
    by_cases e11 : t = 11
    · subst e11; exact .inr (.inl hX.t11.symm)
    by_cases e12 : t = 12
    · subst e12; exact .inr (.inr ⟨rfl, rfl⟩)
    refine .inl ?_
    simp only [look, if_neg (Ne.symm e0), if_neg (Ne.symm e1), if_neg (Ne.symm e2), if_neg (Ne.symm e3), if_neg (Ne.symm e8), if_neg (Ne.symm e9), if_neg (Ne.symm e10), if_neg (Ne.symm e11), if_neg (Ne.symm e12)])
  exact fin_wc (F := ⟨0, ρ0⟩) mixed ty_ok hs12 (post12 w hn0 hn hx g1 g2 g3 hX.hin 4398046511104 (by decide) _ rfl _ _ hX.m0 hX.m1) (by kernel_rfl) ⟨ρ, hf⟩
/-- What the arguments of a function of four lists are. -/
structure P4 (ts : List T) where
  n : Nat
  xs : List Rr
  lo : List Int
  hi : List Int
  is : List Int
  e : ts = [tl xs, ti lo, ti hi, ti is]
  w : ∀ x ∈ xs, x.ok n
  hn0 : 0 < n
  hn : n ≤ 100000
  hx : xs.length ≤ 1000000
  g1 : lo.length ≤ 1000000
  g2 : hi.length ≤ 1000000
  g3 : is.length ≤ 1000000
theorem P4.uniq {ts : List T} (p q : P4 ts) : p.xs = q.xs ∧ p.lo = q.lo ∧ p.hi = q.hi ∧ p.is = q.is := by
  have h := p.e.symm.trans q.e
  simp only [List.cons.injEq, T.sl.injEq, true_and, and_true] at h
  obtain ⟨h1, h2, h3, h4⟩ := h
  exact ⟨tl_inj h1, ii_inj h2, ii_inj h3, ii_inj h4⟩
open Classical in
noncomputable def g12 : List T → Option Ret := fun ts => if h : Nonempty (P4 ts) then some (ret12 (Classical.choice h).xs.length (exR (Classical.choice h).xs (Classical.choice h).lo (Classical.choice h).hi (Classical.choice h).is)) else none
noncomputable def gg12 : List T → Option Ret := fun ts => if ts.length = 4 then g12 ts else none
theorem s12 : SpecOk Tryz.prog 12 (viewSpec gg12) := by
  refine gen_ok ty_ok (c := Tryz.f12.body.getD .skip) Tryz.func12 rfl (enters_of Tryz.func12 (by kernel_rfl) rfl) g12 false 4 (by decide) fun ts r hlen hg okA ρ0 w a hrel => ?_
  unfold g12 at hg
  split at hg
  · rename_i h
    generalize Classical.choice h = p at hg
    simp only [Option.some.injEq] at hg
    subst hg
    obtain ⟨n, xs, lo, hi, is, rfl, w, hn0, hn, hx, g1, g2, g3⟩ := p
    exact fin12 w hn0 hn hx g1 g2 g3 hrel
  · cases hg
theorem c12 {n : Nat} {xs : List Rr} {lo hi is : List Int} (w : ∀ x ∈ xs, x.ok n) (hn0 : 0 < n) (hn : n ≤ 100000) (hx : xs.length ≤ 1000000) (g1 : lo.length ≤ 1000000) (g2 : hi.length ≤ 1000000) (g3 : is.length ≤ 1000000) : gg12 [tl xs, ti lo, ti hi, ti is] = some (ret12 xs.length (exR xs lo hi is)) := by
  refine (if_pos rfl).trans ?_
  have h : Nonempty (P4 [tl xs, ti lo, ti hi, ti is]) := ⟨⟨n, xs, lo, hi, is, rfl, w, hn0, hn, hx, g1, g2, g3⟩⟩
  unfold g12
  rw [dif_pos h]
  obtain ⟨q1, q2, q3, q4⟩ := P4.uniq (Classical.choice h) ⟨n, xs, lo, hi, is, rfl, w, hn0, hn, hx, g1, g2, g3⟩
  rw [q1, q2, q3, q4]
end Go.Ev.S
/- The extreme values: what they are. -/
set_option linter.unusedVariables false
set_option linter.unusedSimpArgs false
set_option maxRecDepth 100000
namespace Go.Ev.S
open Go Go.Ev Go.Proofs NumA
theorem ordQ_pw (xs : List Rr) : (ordQ xs).Pairwise fun a b => tF xs b ≤ tF xs a := by
  have h : (ordQ xs).Pairwise fun a b => (!ltO xs b a) = true := by
    unfold ordQ
    refine List.pairwise_mergeSort (fun a b c h1 h2 => ?_) (fun a b => ?_) _
    · simp only [Bool.not_eq_true'] at *
      exact ltO_ntrans xs c b a h2 h1
    · cases h1 : ltO xs b a with
      | false => rfl
      | true =>
        cases h2 : ltO xs a b with
        | false => rfl
        | true =>
          have := ltO_trans xs b a b h1 h2
          rw [ltO_irrefl] at this; cases this
  refine h.imp fun {a b} hab => ?_
  simp only [Bool.not_eq_true'] at hab
  have hn : ¬ ltO xs b a = true := by simp [hab]
  rw [ltO_iff] at hn
  exact Rat.not_lt.1 fun hlt => hn (.inl hlt)
theorem map_negR_tF (xs : List Rr) {i : Nat} (h : i < xs.length) : tF (xs.map negR) i = - tF xs i := by
  unfold tF
  rw [show (xs.map negR).getD i r0 = negR (xs.getD i r0) by
    rw [List.getD_eq_getElem?_getD, List.getD_eq_getElem?_getD, List.getElem?_map, List.getElem?_eq_getElem h]; rfl, negR_v]
/-- The two ways agree. -/
theorem exP_exR (xs : List Rr) (lo hi is : List Int) : exP xs lo hi is = exR xs lo hi is := by
  unfold exP exR
  split
  · have h := pX_rX (t := tF xs) (t' := tF (xs.map negR)) (lo := iF lo) (hi := iF hi) (isl := iF is) (ordQ_perm xs) (ordQ_pw xs) (by have := ordQ_perm (xs.map negR); rwa [List.length_map] at this) (ordQ_pw (xs.map negR))
    rw [← h]
    unfold pX
    rw [List.length_map]
    cases gP (tF xs) (iF lo) (iF hi) (iF is) xs.length (ordQ xs) <;> rfl
  · rfl
/-- The values, by points that are known to be best. -/
theorem exP_val {xs : List Rr} {lo hi is : List Int} (h : inE xs lo hi is) {y z : Nat → Int} (hy : Feas (iF lo) (iF hi) (iF is) xs.length y) (oy : Opt (tF xs) (iF lo) (iF hi) (iF is) xs.length y) (hz : Feas (iF lo) (iF hi) (iF is) xs.length z) (oz : Opt (tF (xs.map negR)) (iF lo) (iF hi) (iF is) xs.length z) :
    exP xs lo hi is = some (-(valQ (tF (xs.map negR)) xs.length z), valQ (tF xs) xs.length y) := by
  unfold exP
  rw [if_pos h, List.length_map]
  obtain ⟨a1, a2⟩ := gP_spec (t := tF xs) (lo := iF lo) (hi := iF hi) (isl := iF is) (ordQ_perm xs) (ordQ_pw xs)
  obtain ⟨b1, b2⟩ := gP_spec (t := tF (xs.map negR)) (lo := iF lo) (hi := iF hi) (isl := iF is) (n := xs.length) (by have := ordQ_perm (xs.map negR); rwa [List.length_map] at this) (ordQ_pw (xs.map negR))
  cases ha : gP (tF xs) (iF lo) (iF hi) (iF is) xs.length (ordQ xs) with
  | none => exact absurd ⟨y, hy⟩ (a1 ha)
  | some v =>
    obtain ⟨y', hy', oy', rfl⟩ := a2 v ha
    cases hb : gP (tF (xs.map negR)) (iF lo) (iF hi) (iF is) xs.length (ordQ (xs.map negR)) with
    | none => exact absurd ⟨y, hy⟩ (b1 hb)
    | some v =>
      obtain ⟨z', hz', oz', rfl⟩ := b2 v hb
      simp only [Option.getD_some]
      rw [opt_unique _ _ _ _ _ hy' oy' hy oy, opt_unique _ _ _ _ _ hz' oz' hz oz]
theorem exP_none {xs : List Rr} {lo hi is : List Int} (h : ¬ ∃ y, Feas (iF lo) (iF hi) (iF is) xs.length y) : exP xs lo hi is = none := by
  unfold exP
  split
  · obtain ⟨a1, a2⟩ := gP_spec (t := tF xs) (lo := iF lo) (hi := iF hi) (isl := iF is) (ordQ_perm xs) (ordQ_pw xs)
    cases ha : gP (tF xs) (iF lo) (iF hi) (iF is) xs.length (ordQ xs) with
    | none => rfl
    | some v => obtain ⟨y, hy, _⟩ := a2 v ha; exact absurd ⟨y, hy⟩ h
  · rfl
/-- Every point of the box lies between the two. -/
theorem exP_inside {xs : List Rr} {lo hi is : List Int} (h : inE xs lo hi is) {y : Nat → Int} (hy : Feas (iF lo) (iF hi) (iF is) xs.length y) :
    ∃ le mo, exP xs lo hi is = some (le, mo) ∧ le ≤ valQ (tF xs) xs.length y ∧ valQ (tF xs) xs.length y ≤ mo := by
  obtain ⟨a1, a2⟩ := gP_spec (t := tF xs) (lo := iF lo) (hi := iF hi) (isl := iF is) (ordQ_perm xs) (ordQ_pw xs)
  obtain ⟨b1, b2⟩ := gP_spec (t := tF (xs.map negR)) (lo := iF lo) (hi := iF hi) (isl := iF is) (n := xs.length) (by have := ordQ_perm (xs.map negR); rwa [List.length_map] at this) (ordQ_pw (xs.map negR))
  cases ha : gP (tF xs) (iF lo) (iF hi) (iF is) xs.length (ordQ xs) with
  | none => exact absurd ⟨y, hy⟩ (a1 ha)
  | some v =>
    obtain ⟨y', hy', oy', rfl⟩ := a2 v ha
    cases hb : gP (tF (xs.map negR)) (iF lo) (iF hi) (iF is) xs.length (ordQ (xs.map negR)) with
    | none => exact absurd ⟨y, hy⟩ (b1 hb)
    | some v =>
      obtain ⟨z', hz', oz', rfl⟩ := b2 v hb
      refine ⟨-(valQ (tF (xs.map negR)) xs.length z'), valQ (tF xs) xs.length y', ?_, ?_, opt_le _ _ _ _ _ hy' oy' hy⟩
      · unfold exP
        rw [if_pos h, List.length_map, ha, hb]; rfl
      · have h1 := opt_le _ _ _ _ _ hz' oz' hy
        have h2 : valQ (tF (xs.map negR)) xs.length y = - valQ (tF xs) xs.length y := by
          unfold valQ
          have h3 : sumQ xs.length (fun i => tF (xs.map negR) i * (y i : Rat)) = sumQ xs.length (fun i => -1 * (tF xs i * (y i : Rat))) := sumQ_congr fun i hi' => by rw [map_negR_tF xs hi']; grind
          rw [h3, sumQ_mul]; grind
        rw [h2] at h1
        grind
theorem exP_fit {n : Nat} {xs : List Rr} {lo hi is : List Int} (w : ∀ x ∈ xs, x.ok n) (hn0 : 0 < n) (hn : n ≤ 1000000) {le mo : Rat} (h : exP xs lo hi is = some (le, mo)) : Fit (1 + 64 * (n + 2)) le ∧ Fit (1 + 64 * (n + 2)) mo := by
  unfold exP at h
  split at h
  · rename_i hin
    have hok := ok35_of w hn0 hn hin
    split at h
    · cases h
    · rename_i v hv
      simp only [Option.some.injEq, Prod.mk.injEq] at h
      obtain ⟨rfl, rfl⟩ := h
      refine ⟨fit_neg ?_, gP35_fit hok hv⟩
      cases hb : gP (tF (xs.map negR)) (iF lo) (iF hi) (iF is) (xs.map negR).length (ordQ (xs.map negR)) with
      | none => exact fit_zero (by omega)
      | some v => exact gP35_fit (ok35_neg hok) hb
  · cases h
/-- A number as a record. -/
def cR (q : Rat) : Rr := ⟨decide (q.num < 0), en (q.num.natAbs : Int), en (q.den : Int)⟩
theorem cR_v (q : Rat) : (cR q).v = q := tc_rv q
theorem cR_ok {n : Nat} {q : Rat} (h : Fit n q) : (cR q).ok n := Rw.can h
end Go.Ev.S
/- The screen's law: the sanity check. -/
set_option linter.unusedVariables false
set_option linter.unusedSimpArgs false
set_option maxRecDepth 100000
namespace Go.Ev.S
open Go Go.Ev Go.Proofs NumA
theorem cR_t (q : Rat) : (cR q).t = tc q := rfl
theorem fit_small {v u : Int} (hv : -4294967296 < v ∧ v < 4294967296) (hu : 0 < u ∧ u < 4294967296) : Fit 1 (Rat.divInt v u) := fit_div hu.1 (by rw [P_one]; omega) (by rw [P_one]; omega)
def pt2 (a b : Int) (i : Nat) : Int := if i = 0 then a else b
theorem two_cases {p : Nat → Prop} (h0 : p 0) (h1 : p 1) : ∀ i, i < 2 → p i := fun i hi => by
  have : i = 0 ∨ i = 1 := by omega
  rcases this with rfl | rfl
  · exact h0
  · exact h1
theorem awk1 : g11 [tl [cR (Rat.divInt 1 2), cR (Rat.divInt (-1) 4)], ti [0, -6], ti [10, 4], ti [0, 0]] = some (.ts [tc 0, tc (Rat.divInt 9 2), .v (.bool true)]) := by
  have w : ∀ x ∈ [cR (Rat.divInt 1 2), cR (Rat.divInt (-1) 4)], x.ok 1 := by
    intro x hx
    simp only [List.mem_cons, List.not_mem_nil, or_false] at hx
    rcases hx with rfl | rfl
    · exact cR_ok (fit_small (by omega) (by omega))
    · exact cR_ok (fit_small (by omega) (by omega))
  have t0 : tF [cR (Rat.divInt 1 2), cR (Rat.divInt (-1) 4)] 0 = Rat.divInt 1 2 := cR_v _
  have t1 : tF [cR (Rat.divInt 1 2), cR (Rat.divInt (-1) 4)] 1 = Rat.divInt (-1) 4 := cR_v _
  have s0 : tF ([cR (Rat.divInt 1 2), cR (Rat.divInt (-1) 4)].map negR) 0 = -Rat.divInt 1 2 := by rw [map_negR_tF _ (by decide), t0]
  have s1 : tF ([cR (Rat.divInt 1 2), cR (Rat.divInt (-1) 4)].map negR) 1 = -Rat.divInt (-1) 4 := by rw [map_negR_tF _ (by decide), t1]
  have hin : inE [cR (Rat.divInt 1 2), cR (Rat.divInt (-1) 4)] [0, -6] [10, 4] [0, 0] := ⟨by decide, rfl, rfl, rfl, two_cases (by decide) (by decide)⟩
  have hy : Feas (iF [0, -6]) (iF [10, 4]) (iF [0, 0]) 2 (pt2 6 (-6)) := ⟨two_cases (by decide) (by decide), two_cases (by decide) (by decide), two_cases (by decide) (by decide)⟩
  have hz : Feas (iF [0, -6]) (iF [10, 4]) (iF [0, 0]) 2 (pt2 0 0) := ⟨two_cases (by decide) (by decide), two_cases (by decide) (by decide), two_cases (by decide) (by decide)⟩
  have oy : Opt (tF [cR (Rat.divInt 1 2), cR (Rat.divInt (-1) 4)]) (iF [0, -6]) (iF [10, 4]) (iF [0, 0]) 2 (pt2 6 (-6)) :=
    ⟨fun _ => Rat.divInt 1 2, two_cases ⟨fun h => absurd h (by rw [t0]; exact Rat.lt_irrefl), fun h => absurd h (by rw [t0]; exact Rat.lt_irrefl)⟩ ⟨fun h => absurd h (by rw [t1]; decide +kernel), fun _ => rfl⟩⟩
  have oz : Opt (tF ([cR (Rat.divInt 1 2), cR (Rat.divInt (-1) 4)].map negR)) (iF [0, -6]) (iF [10, 4]) (iF [0, 0]) 2 (pt2 0 0) :=
    ⟨fun _ => -Rat.divInt (-1) 4, two_cases ⟨fun h => absurd h (by rw [s0]; decide +kernel), fun _ => rfl⟩ ⟨fun h => absurd h (by rw [s1]; exact Rat.lt_irrefl), fun h => absurd h (by rw [s1]; exact Rat.lt_irrefl)⟩⟩
  have hv := exP_val (y := pt2 6 (-6)) (z := pt2 0 0) hin hy oy hz oz
  have v1 : valQ (tF [cR (Rat.divInt 1 2), cR (Rat.divInt (-1) 4)]) 2 (pt2 6 (-6)) = Rat.divInt 9 2 := by
    simp only [valQ, sumQ, t0, t1]; decide +kernel
  have v2 : -(valQ (tF ([cR (Rat.divInt 1 2), cR (Rat.divInt (-1) 4)].map negR)) 2 (pt2 0 0)) = 0 := by
    simp only [valQ, sumQ, s0, s1]; decide +kernel
  rw [c11 w (by decide) (by decide) (by decide) (by decide) (by decide) (by decide), hv]
  simp only [List.length_cons, List.length_nil, Nat.zero_add, Nat.reduceAdd]
  rw [v1, v2]
  rfl
theorem awk2 : g11 [tl [cR 0, cR 0], ti [1, 0], ti [2, 3], ti [0, 0]] = some (.ts [zT, zT, .v (.bool false)]) := by
  have w : ∀ x ∈ [cR 0, cR 0], x.ok 1 := by
    intro x hx
    simp only [List.mem_cons, List.not_mem_nil, or_false] at hx
    rcases hx with rfl | rfl <;> exact cR_ok (fit_zero (by omega))
  have hno : ¬ ∃ y, Feas (iF [1, 0]) (iF [2, 3]) (iF [0, 0]) 2 y := no_lo (k := 0) (by decide)
  rw [c11 w (by decide) (by decide) (by decide) (by decide) (by decide) (by decide), exP_none hno]
  rfl
theorem cmpQ_refl (q : Rat) : cmpQ q q = 0 := by unfold cmpQ; rw [if_neg Rat.lt_irrefl, if_pos rfl]
def keep13 : Nat → List Nat := fun _ => []
noncomputable def sp13 : Nat → Option Spec := (more 26 (viewSpec g26) (more 11 (viewSpec g11) (more 15 (viewSpec g15) (more 30 (viewSpec g30) (more 14 (viewSpec g14) noneS)))))
theorem hs13 : ∀ f s, sp13 f = some s → SpecOk Tryz.prog f s := (more_ok s26 (more_ok s11 (more_ok s15 (more_ok s30 (more_ok s14 none_ok)))))
noncomputable def fu13 : List T → Nat := fun _ => 4398046511104
noncomputable def g13 : List T → Option Ret := fun ts => if ts.length = 0 then pureRun ty sp13 keep13 (fu13 ts) false Tryz.f13.results (Tryz.f13.body.getD .skip) ts else none
theorem s13 : SpecOk Tryz.prog 13 (viewSpec g13) := pure_ok mixed ty_ok hs13 Tryz.func13 rfl (by kernel_rfl) (enters_of Tryz.func13 (by kernel_rfl) rfl) keep13 fu13 false 0 (by decide)
set_option maxHeartbeats 4000000 in
theorem c13  : g13 [] = some (.ts [.v (.bool true)]) := by
  have run : ∀ (fuel : Nat) (hf : 1099511627776 < fuel) (c : Code) (hc : Tryz.f13.body = some c), pureRun ty sp13 keep13 fuel false Tryz.f13.results c [] = some (.ts [.v (.bool true)]) := by
   intro fuel hf c hc
   injection hc with hc
   subst hc
   refine pure_wc ?_
   refine wsr ?_
   refine xa rfl rfl rfl rfl ?_
   refine X_endS ?_
   try dsimp only [St.put, szA, List.length, Nat.reduceAdd]
   refine wsr ?_
   refine X_op' rfl (A_callV rfl rfl rfl rfl (.cons (V_t rfl) (K_t rfl) (.cons (V_t rfl) (K_t rfl) .nil)) (c26 (by omega) (by omega) (by omega) (by omega))) ?_
   refine X_op' rfl (A_callV rfl rfl rfl rfl (.cons (V_t rfl) (K_t rfl) (.cons (V_t rfl) (K_t rfl) .nil)) (c26 (by omega) (by omega) (by omega) (by omega))) ?_
   refine X_op' rfl (A_bs rfl rfl rfl rfl rfl (.cons (V_t rfl) (K_t rfl) (.cons (V_t rfl) (K_t rfl) .nil)) rfl rfl (by decide)) ?_
   refine X_op' rfl (A_bs rfl rfl rfl rfl rfl (.cons (V_t rfl) (K_t rfl) (.cons (V_t rfl) (K_t rfl) .nil)) rfl rfl (by decide)) ?_
   refine X_op' rfl (A_bs rfl rfl rfl rfl rfl (.cons (V_t rfl) (K_t rfl) (.cons (V_t rfl) (K_t rfl) .nil)) rfl rfl (by decide)) ?_
   refine X_op' rfl (A_bs rfl rfl rfl rfl rfl (.cons (V_t rfl) (K_t rfl) (.cons (V_t rfl) (K_t rfl) .nil)) rfl rfl (by decide)) ?_
   refine X_op' rfl (A_callV rfl rfl rfl rfl (.cons (V_m rfl rfl rfl rfl) (K_m rfl) (.cons (V_m rfl rfl rfl rfl) (K_m rfl) (.cons (V_m rfl rfl rfl rfl) (K_m rfl) (.cons (V_m rfl rfl rfl rfl) (K_m rfl) .nil)))) awk1) ?_
   refine X_op' rfl (A_mvU (.inl rfl) rfl) ?_
   refine X_op' rfl (A_ext rfl rfl rfl) ?_
   refine X_op' rfl (A_ext rfl rfl rfl) ?_
   refine X_op' rfl (A_ext rfl rfl rfl) ?_
   refine X_op' rfl (A_alloc rfl rfl) ?_
   refine X_op' rfl (A_alloc rfl rfl) ?_
   refine X_op' rfl (A_stV rfl rfl rfl (V_t rfl) (K_t rfl) rfl rfl rfl rfl rfl rfl rfl) ?_
   refine X_op' rfl (A_stV rfl rfl rfl (V_t rfl) (K_t rfl) rfl rfl rfl rfl rfl rfl rfl) ?_
   refine xa rfl rfl rfl rfl ?_
   refine X_endS ?_
   try dsimp only [St.put, szA, List.length, Nat.reduceAdd]
   refine wsr ?_
   refine X_op' rfl (A_callV rfl rfl rfl rfl .nil c15) ?_
   refine X_op' rfl (A_callV rfl rfl rfl rfl .nil c15) ?_
   refine X_op' rfl (A_bs rfl rfl rfl rfl rfl (.cons (V_t rfl) (K_t rfl) (.cons (V_t rfl) (K_t rfl) .nil)) rfl rfl (by decide)) ?_
   refine X_op' rfl (A_bs rfl rfl rfl rfl rfl (.cons (V_t rfl) (K_t rfl) (.cons (V_t rfl) (K_t rfl) .nil)) rfl rfl (by decide)) ?_
   refine X_op' rfl (A_bs rfl rfl rfl rfl rfl (.cons (V_t rfl) (K_t rfl) (.cons (V_t rfl) (K_t rfl) .nil)) rfl rfl (by decide)) ?_
   refine X_op' rfl (A_bs rfl rfl rfl rfl rfl (.cons (V_t rfl) (K_t rfl) (.cons (V_t rfl) (K_t rfl) .nil)) rfl rfl (by decide)) ?_
   refine X_op' rfl (A_callV rfl rfl rfl rfl (.cons (V_m rfl rfl rfl rfl) (K_m rfl) (.cons (V_m rfl rfl rfl rfl) (K_m rfl) (.cons (V_m rfl rfl rfl rfl) (K_m rfl) (.cons (V_m rfl rfl rfl rfl) (K_m rfl) .nil)))) awk2) ?_
   refine X_op' rfl (A_mvU (.inl rfl) rfl) ?_
   refine X_op' rfl (A_ext rfl rfl rfl) ?_
   refine X_op' rfl (A_ext rfl rfl rfl) ?_
   refine X_op' rfl (A_ext rfl rfl rfl) ?_
   refine X_op' rfl (A_alloc rfl rfl) ?_
   refine X_op' rfl (A_alloc rfl rfl) ?_
   refine X_op' rfl (A_stV rfl rfl rfl (V_t rfl) (K_t rfl) rfl rfl rfl rfl rfl rfl rfl) ?_
   refine X_op' rfl (A_stV rfl rfl rfl (V_t rfl) (K_t rfl) rfl rfl rfl rfl rfl rfl rfl) ?_
   refine xa rfl rfl rfl rfl ?_
   refine X_endS ?_
   try dsimp only [St.put, szA, List.length, Nat.reduceAdd]
   refine wsr ?_
   refine xm rfl rfl rfl rfl ?_
   refine xm rfl rfl rfl rfl ?_
   refine X_yes' rfl rfl rfl rfl (A_mvT (.inl rfl) rfl rfl) ?_
   refine X_yes' rfl rfl rfl rfl (A_not rfl rfl) ?_
   refine X_op' rfl (A_pickT rfl rfl rfl rfl) ?_
   refine xm rfl rfl rfl rfl ?_
   refine X_yes' rfl rfl rfl rfl (A_ld rfl rfl rfl (ld_mp rfl rfl rfl rfl rfl rfl)) ?_
   refine X_yes' rfl rfl rfl rfl (A_callV rfl rfl rfl rfl (.cons (V_t rfl) (K_t rfl) .nil) ((c30 (Rw.can (NumA.fit_zero (m := 1) (by omega))) (by omega) (by omega)).trans (show some (Ret.ts [ii (sgQ (rv (decide ((0 : Rat).num < 0)) (en ((0 : Rat).num.natAbs : Int)) (en ((0 : Rat).den : Int))))]) = some (Ret.ts [ii 0]) by rw [tc_rv]; rfl))) ?_
   refine X_yes' rfl rfl rfl rfl (A_int rfl rfl rfl ⟨by decide, by decide⟩ rfl) ?_
   refine X_op' rfl (A_pickT rfl rfl rfl rfl) ?_
   refine xm rfl rfl rfl rfl ?_
   refine X_yes' rfl rfl rfl rfl (A_ld rfl rfl rfl (ld_mp rfl rfl rfl rfl rfl rfl)) ?_
   refine X_yes' rfl rfl rfl rfl (A_callV rfl rfl rfl rfl (.cons (V_t rfl) (K_t rfl) (.cons (V_t rfl) (K_t rfl) .nil)) (c26 (by omega) (by omega) (by omega) (by omega))) ?_
   refine X_yes' rfl rfl rfl rfl (A_callV rfl rfl rfl rfl (.cons (V_t rfl) (K_t rfl) (.cons (V_t rfl) (K_t rfl) .nil)) ((c14 (Rw.can (fit_small (v := 9) (u := 2) (by omega) (by omega))) (Rw.can (fit_small (v := 9) (u := 2) (by omega) (by omega))) (by omega) (by omega)).trans (show some (Ret.ts [ii (cmpQ (rv (decide ((Rat.divInt 9 2).num < 0)) (en ((Rat.divInt 9 2).num.natAbs : Int)) (en ((Rat.divInt 9 2).den : Int))) (rv (decide ((Rat.divInt 9 2).num < 0)) (en ((Rat.divInt 9 2).num.natAbs : Int)) (en ((Rat.divInt 9 2).den : Int))))]) = some (Ret.ts [ii 0]) by rw [tc_rv, cmpQ_refl]))) ?_
   refine X_yes' rfl rfl rfl rfl (A_int rfl rfl rfl ⟨by decide, by decide⟩ rfl) ?_
   refine X_op' rfl (A_pickT rfl rfl rfl rfl) ?_
   refine xa rfl rfl rfl rfl ?_
   refine X_endDS (by kernel_rfl) (by kernel_rfl) ?_
   try dsimp only [St.put, szA, List.length, Nat.reduceAdd]
   refine W_ret ?_
   exact end_R rfl (.t rfl .nil)
  exact (if_pos rfl).trans (run _ (by simp only [fu13]; omega) _ rfl)
end Go.Ev.S
/- ScreenExtremes: the law's walk. -/
set_option linter.unusedVariables false
set_option linter.unusedSimpArgs false
set_option maxRecDepth 100000
namespace Go.Ev.S
open Go Go.Ev Go.Proofs NumA
def uB (b : Bool) : Option Rat → Bool
  | none => false
  | some q => nB b q
def uL (b : Bool) : Option Rat → List Int
  | none => []
  | some q => nL b q
def uK (b : Bool) : Option Rat → List Int
  | none => []
  | some q => nK b q
abbrev uT (b : Bool) (o : Option Rat) : T := tq (uB b o) (uL b o) (uK b o)
theorem ret12_eq (N : Nat) (o : Option (Rat × Rat)) : ret12 N o = .ts [uT (decide (0 < N)) (o.map (·.1)), uT (decide (0 < N)) (o.map (·.2)), .v (.bool o.isSome)] := by
  cases o with
  | none => rfl
  | some p => rfl
theorem exR_zero {xs : List Rr} {lo hi is : List Int} (h : xs.length = 0) : exR xs lo hi is = none ∨ exR xs lo hi is = some (0, 0) := by
  obtain rfl : xs = [] := List.eq_nil_of_length_eq_zero h
  unfold exR
  split
  · exact .inr rfl
  · exact .inl rfl
theorem cc11 {n : Nat} {xs : List Rr} {lo hi is : List Int} (w : ∀ x ∈ xs, x.ok n) (hn0 : 0 < n) (hn : n ≤ 1000000) (hx : xs.length ≤ 1000000) (g1 : lo.length ≤ 1000000) (g2 : hi.length ≤ 1000000) (g3 : is.length ≤ 1000000) {E : Option (Rat × Rat)} (hE : exP xs lo hi is = E) :
    g11 [tl xs, ti lo, ti hi, ti is] = some (.ts [oT (E.map (·.1)), oT (E.map (·.2)), .v (.bool E.isSome)]) := by
  rw [c11 w hn0 hn hx g1 g2 g3, hE]; rfl
theorem cc12 {n : Nat} {xs : List Rr} {lo hi is : List Int} (w : ∀ x ∈ xs, x.ok n) (hn0 : 0 < n) (hn : n ≤ 100000) (hx : xs.length ≤ 1000000) (g1 : lo.length ≤ 1000000) (g2 : hi.length ≤ 1000000) (g3 : is.length ≤ 1000000) {E : Option (Rat × Rat)} (hE : exP xs lo hi is = E) :
    gg12 [tl xs, ti lo, ti hi, ti is] = some (.ts [uT (decide (0 < xs.length)) (E.map (·.1)), uT (decide (0 < xs.length)) (E.map (·.2)), .v (.bool E.isSome)]) := by
  rw [c12 w hn0 hn hx g1 g2 g3, ← exP_exR, hE, ret12_eq]
theorem cmpE {M : Nat} {b : Bool} {o : Option Rat} (hf : ∀ q, o = some q → Fit M q) (hb : b = false → o = none ∨ o = some 0) (h0 : 0 < M) (hM : M ≤ 536870911) : g14 [oT o, uT b o] = some (.ts [ii 0]) := by
  have h1 : Rw M (uB b o) (uL b o) (uK b o) := by
    cases o with
    | none => exact ⟨U32_nil, U32_nil, by simp [uL], by simp [uK]⟩
    | some q => exact Rw_n (hf q rfl)
  have h2 : rv (uB b o) (uL b o) (uK b o) = o.getD 0 := by
    cases o with
    | none => exact rv_o none
    | some q =>
      refine rv_n fun e => ?_
      rcases hb e with h | h
      · cases h
      · exact Option.some.inj h
  rw [c14 (Rw_o hf) h1 h0 hM, rv_o, h2, cmpQ_refl]
/-- What the first part leaves. -/
structure X3 (xs : List Rr) (σ : St) : Prop where
  raw : rawP xs
  t0 : look σ.tm 0 = .t (tl xs)
  t10 : look σ.tm 10 = .t (.v (.bool false))
  nx : σ.nx ≤ 1000
  ls : ∃ lo hi is : List Int, lo.length ≤ 1000 ∧ hi.length ≤ 1000 ∧ is.length ≤ 1000 ∧ ((look σ.tm 1 = .t (ti lo) ∧ look σ.tm 2 = .t (ti hi) ∧ look σ.tm 3 = .t (ti is)) ∨
    ∃ a b c : Nat, a ≠ b ∧ a ≠ c ∧ b ≠ c ∧ look σ.tm 1 = .ms a 1 0 lo.length ∧ look σ.tm 2 = .ms b 1 0 hi.length ∧ look σ.tm 3 = .ms c 1 0 is.length ∧ lookM σ.mm a = some ⟨3, 1, lo.map ii⟩ ∧ lookM σ.mm b = some ⟨3, 1, hi.map ii⟩ ∧ lookM σ.mm c = some ⟨3, 1, is.map ii⟩)
theorem fitL_bound (l : List Int) {n : Int} (hn : 0 < n) (k i : Nat) : 0 ≤ (fitL l n k).getD i 0 ∧ (fitL l n k).getD i 0 < n := by
  rw [List.getD_eq_getElem?_getD]
  unfold fitL
  rw [List.getElem?_map]
  by_cases h : i < k
  · rw [List.getElem?_range h]
    simp only [Option.map_some, Option.getD_some]
    split
    · exact modI_lt hn
    · omega
  · rw [List.getElem?_eq_none (by simpa using h)]
    simpa using hn
theorem raw_ok {xs : List Rr} (hU : ∀ x ∈ xs, U32 x.l ∧ U32 x.k) (h : rawP xs) : ∀ x ∈ xs, x.ok 4 := fun x hx => ⟨(hU x hx).1, (hU x hx).2, (h.2 x hx).1, (h.2 x hx).2⟩
def st3 (xs : List Rr) (A B C : List Int) (i : Int) : St := { tm := [(0, .t (tl xs)), (1, .ms 0 1 0 xs.length), (2, .ms 1 1 0 xs.length), (3, .ms 2 1 0 xs.length), (10, .t (.v (.bool false))), (11, .t (ii i))], mm := [(0, some ⟨3, 1, A.map ii⟩), (1, some ⟨3, 1, B.map ii⟩), (2, some ⟨3, 1, C.map ii⟩)], nx := 3 }
def keep3 : Nat → List Nat := fun _ => [0, 1, 2, 3, 10, 11]
noncomputable def sp3 : Nat → Option Spec := (more 9 (viewSpec g9) (more 10 (viewSpec g10) (more 11 (viewSpec g11) (more 12 (viewSpec gg12) (more 13 (viewSpec g13) (more 14 (viewSpec g14) noneS))))))
theorem hs3 : ∀ f s, sp3 f = some s → SpecOk Tryz.prog f s := (more_ok s9 (more_ok s10 (more_ok s11 (more_ok s12 (more_ok s13 (more_ok s14 none_ok))))))
set_option maxHeartbeats 8000000 in
theorem pre3a {xs : List Rr} {lo hi is : List Int} (fuel : Nat) (hf : 1099511627776 < fuel) (c : Code) (hc : Tryz.f3.body = some c) :
    WC ty sp3 0 keep3 fuel (cPre 3 c) 0 { tm := [tl xs, ti lo, ti hi, ti is, .v (.bool false)].zipIdx.map fun p => (p.2, .t p.1), mm := [], nx := 0 } (CutQ ty Tryz.f3.results (.ts [.v (.bool true)]) (X3 xs)) := by
  injection hc with hc
  subst hc
  have e1 : (lo.map ii).length = lo.length := List.length_map _
  have e2 : (hi.map ii).length = hi.length := List.length_map _
  have e3 : (is.map ii).length = is.length := List.length_map _
  have el : ((xs : List Rr).map Rr.t).length = (xs : List Rr).length := List.length_map _
  refine wsr ?_
  refine xa rfl rfl rfl rfl ?_
  refine X_endS ?_
  try dsimp only [St.put, szA, List.length, Nat.reduceAdd]
  refine W_seq ?_
  refine wsr ?_
  refine xm rfl rfl rfl rfl ?_
  refine X_op' rfl (A_callV rfl rfl rfl rfl (.cons (V_t rfl) (K_t rfl) .nil) c9) ?_
  refine X_op' rfl (A_not rfl rfl) ?_
  refine xm rfl rfl rfl rfl ?_
  refine X_both (d := 21) rfl (fun hb2 => ?_) (fun hb2 => ?_)
  ·have khb2 := hb2; (try simp only [kb] at khb2)
   refine X_no1 rfl rfl rfl hb2 ?_
   refine X_no1 rfl rfl rfl hb2 ?_
   refine X_no1 rfl rfl rfl hb2 ?_
   refine X_op' rfl (A_pickT rfl rfl hb2 rfl) ?_
   refine xm rfl rfl rfl rfl ?_
   refine X_no1 rfl rfl rfl rfl ?_
   refine X_no1 rfl rfl rfl rfl ?_
   refine X_no1 rfl rfl rfl rfl ?_
   refine X_op' rfl (A_pickT rfl rfl rfl rfl) ?_
   refine xm rfl rfl rfl rfl ?_
   refine X_no1 rfl rfl rfl rfl ?_
   refine X_no1 rfl rfl rfl rfl ?_
   refine X_no1 rfl rfl rfl rfl ?_
   refine X_op' rfl (A_pickT rfl rfl rfl rfl) ?_
   refine X_endS ?_
   try dsimp only [St.put, szA, List.length, Nat.reduceAdd]
   refine W_condT rfl rfl ?_
   refine wsr ?_
   refine xa rfl rfl rfl rfl ?_
   refine X_endS ?_
   try dsimp only [St.put, szA, List.length, Nat.reduceAdd]
   refine W_ret ?_
   refine Q_seqX ?_
   exact end_R rfl (.t rfl .nil)
  ·have khb2 := hb2; (try simp only [kb] at khb2)
   refine X_yes' rfl rfl rfl hb2 (A_mvT (.inl rfl) rfl rfl) ?_
   refine X_yes' rfl rfl rfl hb2 (A_lenT rfl rfl rfl rfl rfl rfl rfl) ?_
   refine X_yes' rfl rfl rfl hb2 (A_int rfl rfl rfl ⟨by decide, by decide⟩ rfl) ?_
   refine X_op' rfl (A_pickF rfl rfl hb2 rfl) ?_
   refine xm rfl rfl rfl rfl ?_
   refine X_both (d := 26) rfl (fun hb3 => ?_) (fun hb3 => ?_)
   ·have khb3 := hb3; (try simp only [kb] at khb3)
    refine X_no1 rfl rfl rfl hb3 ?_
    refine X_no1 rfl rfl rfl hb3 ?_
    refine X_no1 rfl rfl rfl hb3 ?_
    refine X_op' rfl (A_pickT rfl rfl hb3 rfl) ?_
    refine xm rfl rfl rfl rfl ?_
    refine X_no1 rfl rfl rfl rfl ?_
    refine X_no1 rfl rfl rfl rfl ?_
    refine X_no1 rfl rfl rfl rfl ?_
    refine X_op' rfl (A_pickT rfl rfl rfl rfl) ?_
    refine X_endS ?_
    try dsimp only [St.put, szA, List.length, Nat.reduceAdd]
    refine W_condT rfl rfl ?_
    refine wsr ?_
    refine xa rfl rfl rfl rfl ?_
    refine X_endS ?_
    try dsimp only [St.put, szA, List.length, Nat.reduceAdd]
    refine W_ret ?_
    refine Q_seqX ?_
    exact end_R rfl (.t rfl .nil)
   ·have khb3 := hb3; (try simp only [kb] at khb3)
    refine X_yes' rfl rfl rfl hb3 (A_mvT (.inl rfl) rfl rfl) ?_
    refine X_yes' rfl rfl rfl hb3 (A_lenT rfl rfl rfl rfl rfl rfl rfl) ?_
    refine X_yes' rfl rfl rfl hb3 (A_int rfl rfl rfl ⟨by decide, by decide⟩ rfl) ?_
    refine X_op' rfl (A_pickF rfl rfl hb3 rfl) ?_
    refine xm rfl rfl rfl rfl ?_
    refine X_both (d := 31) rfl (fun hb4 => ?_) (fun hb4 => ?_)
    ·have khb4 := hb4; (try simp only [kb] at khb4)
     refine X_no1 rfl rfl rfl hb4 ?_
     refine X_no1 rfl rfl rfl hb4 ?_
     refine X_no1 rfl rfl rfl hb4 ?_
     refine X_op' rfl (A_pickT rfl rfl hb4 rfl) ?_
     refine X_endS ?_
     try dsimp only [St.put, szA, List.length, Nat.reduceAdd]
     refine W_condT rfl rfl ?_
     refine wsr ?_
     refine xa rfl rfl rfl rfl ?_
     refine X_endS ?_
     try dsimp only [St.put, szA, List.length, Nat.reduceAdd]
     refine W_ret ?_
     refine Q_seqX ?_
     exact end_R rfl (.t rfl .nil)
    ·have khb4 := hb4; (try simp only [kb] at khb4)
     refine X_yes' rfl rfl rfl hb4 (A_mvT (.inl rfl) rfl rfl) ?_
     refine X_yes' rfl rfl rfl hb4 (A_lenT rfl rfl rfl rfl rfl rfl rfl) ?_
     refine X_yes' rfl rfl rfl hb4 (A_int rfl rfl rfl ⟨by decide, by decide⟩ rfl) ?_
     refine X_op' rfl (A_pickF rfl rfl hb4 rfl) ?_
     refine X_endS ?_
     try dsimp only [St.put, szA, List.length, Nat.reduceAdd]
     refine W_condB rfl (fun hb5 => ?_) (fun hb5 => ?_)
     ·have khb5 := hb5; (try simp only [kb] at khb5)
      refine wsr ?_
      refine xa rfl rfl rfl rfl ?_
      refine X_endS ?_
      try dsimp only [St.put, szA, List.length, Nat.reduceAdd]
      refine W_ret ?_
      refine Q_seqX ?_
      exact end_R rfl (.t rfl .nil)
     ·have khb5 := hb5; (try simp only [kb] at khb5)
      refine W_skip ?_
      refine Q_seq ?_
      refine W_seq ?_
      refine wsr ?_
      refine xm rfl rfl rfl rfl ?_
      refine X_endS ?_
      try dsimp only [St.put, szA, List.length, Nat.reduceAdd]
      refine W_condF rfl rfl ?_
      refine W_skip ?_
      refine Q_seq ?_
      refine W_exit ?_
      have hraw : rawP xs := by simpa using khb2
      exact ⟨rfl, ⟨hraw, rfl, rfl, Nat.le_of_ble_eq_true rfl, lo, hi, is, by omega, by omega, by omega, .inl ⟨rfl, rfl, rfl⟩⟩⟩
set_option maxHeartbeats 8000000 in
theorem pre3b {lo hi is : List Int} (fuel : Nat) (hf : 1099511627776 < fuel) (c : Code) (hc : Tryz.f3.body = some c) :
    WC ty sp3 0 keep3 fuel (cPre 3 c) 0 { tm := [tl [], ti lo, ti hi, ti is, .v (.bool true)].zipIdx.map fun p => (p.2, .t p.1), mm := [], nx := 0 } (CutQ ty Tryz.f3.results (.ts [.v (.bool true)]) (X3 [])) := by
  injection hc with hc
  subst hc
  have e1 : (lo.map ii).length = lo.length := List.length_map _
  have e2 : (hi.map ii).length = hi.length := List.length_map _
  have e3 : (is.map ii).length = is.length := List.length_map _
  have el : (([] : List Rr).map Rr.t).length = ([] : List Rr).length := List.length_map _
  refine wsr ?_
  refine xa rfl rfl rfl rfl ?_
  refine X_endS ?_
  try dsimp only [St.put, szA, List.length, Nat.reduceAdd]
  refine W_seq ?_
  refine wsr ?_
  refine xm rfl rfl rfl rfl ?_
  refine X_op' rfl (A_callV rfl rfl rfl rfl (.cons (V_t rfl) (K_t rfl) .nil) c9) ?_
  refine X_op' rfl (A_not rfl rfl) ?_
  refine xm rfl rfl rfl rfl ?_
  refine X_both (d := 21) rfl (fun hb2 => ?_) (fun hb2 => ?_)
  ·have khb2 := hb2; (try simp only [kb] at khb2)
   refine X_no1 rfl rfl rfl hb2 ?_
   refine X_no1 rfl rfl rfl hb2 ?_
   refine X_no1 rfl rfl rfl hb2 ?_
   refine X_op' rfl (A_pickT rfl rfl hb2 rfl) ?_
   refine xm rfl rfl rfl rfl ?_
   refine X_no1 rfl rfl rfl rfl ?_
   refine X_no1 rfl rfl rfl rfl ?_
   refine X_no1 rfl rfl rfl rfl ?_
   refine X_op' rfl (A_pickT rfl rfl rfl rfl) ?_
   refine xm rfl rfl rfl rfl ?_
   refine X_no1 rfl rfl rfl rfl ?_
   refine X_no1 rfl rfl rfl rfl ?_
   refine X_no1 rfl rfl rfl rfl ?_
   refine X_op' rfl (A_pickT rfl rfl rfl rfl) ?_
   refine X_endS ?_
   try dsimp only [St.put, szA, List.length, Nat.reduceAdd]
   refine W_condT rfl rfl ?_
   refine wsr ?_
   refine xa rfl rfl rfl rfl ?_
   refine X_endS ?_
   try dsimp only [St.put, szA, List.length, Nat.reduceAdd]
   refine W_ret ?_
   refine Q_seqX ?_
   exact end_R rfl (.t rfl .nil)
  ·have khb2 := hb2; (try simp only [kb] at khb2)
   refine X_yes' rfl rfl rfl hb2 (A_mvT (.inl rfl) rfl rfl) ?_
   refine X_yes' rfl rfl rfl hb2 (A_lenT rfl rfl rfl rfl rfl rfl rfl) ?_
   refine X_yes' rfl rfl rfl hb2 (A_int rfl rfl rfl ⟨by decide, by decide⟩ rfl) ?_
   refine X_op' rfl (A_pickF rfl rfl hb2 rfl) ?_
   refine xm rfl rfl rfl rfl ?_
   refine X_both (d := 26) rfl (fun hb3 => ?_) (fun hb3 => ?_)
   ·have khb3 := hb3; (try simp only [kb] at khb3)
    refine X_no1 rfl rfl rfl hb3 ?_
    refine X_no1 rfl rfl rfl hb3 ?_
    refine X_no1 rfl rfl rfl hb3 ?_
    refine X_op' rfl (A_pickT rfl rfl hb3 rfl) ?_
    refine xm rfl rfl rfl rfl ?_
    refine X_no1 rfl rfl rfl rfl ?_
    refine X_no1 rfl rfl rfl rfl ?_
    refine X_no1 rfl rfl rfl rfl ?_
    refine X_op' rfl (A_pickT rfl rfl rfl rfl) ?_
    refine X_endS ?_
    try dsimp only [St.put, szA, List.length, Nat.reduceAdd]
    refine W_condT rfl rfl ?_
    refine wsr ?_
    refine xa rfl rfl rfl rfl ?_
    refine X_endS ?_
    try dsimp only [St.put, szA, List.length, Nat.reduceAdd]
    refine W_ret ?_
    refine Q_seqX ?_
    exact end_R rfl (.t rfl .nil)
   ·have khb3 := hb3; (try simp only [kb] at khb3)
    refine X_yes' rfl rfl rfl hb3 (A_mvT (.inl rfl) rfl rfl) ?_
    refine X_yes' rfl rfl rfl hb3 (A_lenT rfl rfl rfl rfl rfl rfl rfl) ?_
    refine X_yes' rfl rfl rfl hb3 (A_int rfl rfl rfl ⟨by decide, by decide⟩ rfl) ?_
    refine X_op' rfl (A_pickF rfl rfl hb3 rfl) ?_
    refine xm rfl rfl rfl rfl ?_
    refine X_both (d := 31) rfl (fun hb4 => ?_) (fun hb4 => ?_)
    ·have khb4 := hb4; (try simp only [kb] at khb4)
     refine X_no1 rfl rfl rfl hb4 ?_
     refine X_no1 rfl rfl rfl hb4 ?_
     refine X_no1 rfl rfl rfl hb4 ?_
     refine X_op' rfl (A_pickT rfl rfl hb4 rfl) ?_
     refine X_endS ?_
     try dsimp only [St.put, szA, List.length, Nat.reduceAdd]
     refine W_condT rfl rfl ?_
     refine wsr ?_
     refine xa rfl rfl rfl rfl ?_
     refine X_endS ?_
     try dsimp only [St.put, szA, List.length, Nat.reduceAdd]
     refine W_ret ?_
     refine Q_seqX ?_
     exact end_R rfl (.t rfl .nil)
    ·have khb4 := hb4; (try simp only [kb] at khb4)
     refine X_yes' rfl rfl rfl hb4 (A_mvT (.inl rfl) rfl rfl) ?_
     refine X_yes' rfl rfl rfl hb4 (A_lenT rfl rfl rfl rfl rfl rfl rfl) ?_
     refine X_yes' rfl rfl rfl hb4 (A_int rfl rfl rfl ⟨by decide, by decide⟩ rfl) ?_
     refine X_op' rfl (A_pickF rfl rfl hb4 rfl) ?_
     refine X_endS ?_
     try dsimp only [St.put, szA, List.length, Nat.reduceAdd]
     refine W_condB rfl (fun hb5 => ?_) (fun hb5 => ?_)
     ·have khb5 := hb5; (try simp only [kb] at khb5)
      refine wsr ?_
      refine xa rfl rfl rfl rfl ?_
      refine X_endS ?_
      try dsimp only [St.put, szA, List.length, Nat.reduceAdd]
      refine W_ret ?_
      refine Q_seqX ?_
      exact end_R rfl (.t rfl .nil)
     ·have khb5 := hb5; (try simp only [kb] at khb5)
      refine W_skip ?_
      refine Q_seq ?_
      refine W_seq ?_
      refine wsr ?_
      refine xm rfl rfl rfl rfl ?_
      refine X_endS ?_
      try dsimp only [St.put, szA, List.length, Nat.reduceAdd]
      refine W_condT rfl rfl ?_
      refine wsr ?_
      refine xm rfl rfl rfl rfl ?_
      refine xm rfl rfl rfl rfl ?_
      refine X_op' rfl (A_callV rfl rfl rfl rfl (.cons (V_t rfl) (K_t rfl) (.cons (V_t rfl) (K_t rfl) (.cons (V_t rfl) (K_t rfl) .nil))) (c10n (by omega) (by omega) (by omega))) ?_
      refine xm rfl rfl rfl rfl ?_
      refine xm rfl rfl rfl rfl ?_
      refine X_op' rfl (A_callV rfl rfl rfl rfl (.cons (V_t rfl) (K_t rfl) (.cons (V_t rfl) (K_t rfl) (.cons (V_t rfl) (K_t rfl) .nil))) (c10n (by omega) (by omega) (by omega))) ?_
      refine xm rfl rfl rfl rfl ?_
      refine xm rfl rfl rfl rfl ?_
      refine X_op' rfl (A_callV rfl rfl rfl rfl (.cons (V_t rfl) (K_t rfl) (.cons (V_t rfl) (K_t rfl) (.cons (V_t rfl) (K_t rfl) .nil))) (c10n (by omega) (by omega) (by omega))) ?_
      refine xa rfl rfl rfl rfl ?_
      refine xa rfl rfl rfl rfl ?_
      refine xa rfl rfl rfl rfl ?_
      refine X_endS ?_
      try dsimp only [St.put, szA, List.length, Nat.reduceAdd]
      refine wsr ?_
      refine xa rfl rfl rfl rfl ?_
      refine X_endS ?_
      try dsimp only [St.put, szA, List.length, Nat.reduceAdd]
      refine W_blk ?_
      refine W_loop (fun nn σ => σ = { tm := [(0, .t (tl [])), (1, .t (ti [])), (2, .t (ti [])), (3, .t (ti [])), (10, .t (.v (.bool false))), (11, .t (ii 0))], mm := [], nx := 0 }) (0) ?_ (by kernel_rfl) (by omega)
      rintro nn _ rfl
      refine W_seq ?_
      refine wsr ?_
      refine xm rfl rfl rfl rfl ?_
      refine xm rfl rfl rfl rfl ?_
      refine X_op' rfl (A_lenT rfl rfl rfl rfl rfl rfl rfl) ?_
      refine X_op' rfl (A_int rfl rfl rfl ⟨by decide, by decide⟩ rfl) ?_
      refine X_endS ?_
      try dsimp only [St.put, szA, List.length, Nat.reduceAdd]
      refine W_condB rfl (fun hb6 => ?_) (fun hb6 => ?_)
      ·have khb6 := hb6; (try simp only [kb] at khb6)
       exact absurd khb6 (by decide)
      ·have khb6 := hb6; (try simp only [kb] at khb6)
       refine W_exit ?_
       refine Q_seqX ?_
       refine Q_rndX ?_
       refine Q_blkE ?_
       refine Q_seq ?_
       refine W_exit ?_
       exact ⟨rfl, ⟨⟨by decide, fun x hx => (by cases hx)⟩, rfl, rfl, Nat.le_of_ble_eq_true rfl, [], [], [], by decide, by decide, by decide, .inl ⟨rfl, rfl, rfl⟩⟩⟩
def st3c (xs : List Rr) (A B C : List Int) (k1 k2 k3 : Nat) (i : Int) : St := { tm := [(0, .t (tl xs)), (1, .ms 0 1 0 k1), (2, .ms 1 1 0 k2), (3, .ms 2 1 0 k3), (10, .t (.v (.bool false))), (11, .t (ii i))], mm := [(0, some ⟨3, 1, A.map ii⟩), (1, some ⟨3, 1, B.map ii⟩), (2, some ⟨3, 1, C.map ii⟩)], nx := 3 }
theorem getD_set_eq (l : List Int) (i : Nat) (v : Int) (h : i < l.length) : (l.set i v).getD i 0 = v := by
  rw [List.getD_eq_getElem?_getD, List.getElem?_set_self h]; rfl
set_option maxHeartbeats 8000000 in
theorem pre3c {xs : List Rr} {lo hi is : List Int} (hx0 : 0 < xs.length) (fuel : Nat) (hf : 1099511627776 < fuel) (c : Code) (hc : Tryz.f3.body = some c) :
    WC ty sp3 0 keep3 fuel (cPre 3 c) 0 { tm := [tl xs, ti lo, ti hi, ti is, .v (.bool true)].zipIdx.map fun p => (p.2, .t p.1), mm := [], nx := 0 } (CutQ ty Tryz.f3.results (.ts [.v (.bool true)]) (X3 xs)) := by
  injection hc with hc
  subst hc
  have e1 : (lo.map ii).length = lo.length := List.length_map _
  have e2 : (hi.map ii).length = hi.length := List.length_map _
  have e3 : (is.map ii).length = is.length := List.length_map _
  have el : ((xs : List Rr).map Rr.t).length = (xs : List Rr).length := List.length_map _
  refine wsr ?_
  refine xa rfl rfl rfl rfl ?_
  refine X_endS ?_
  try dsimp only [St.put, szA, List.length, Nat.reduceAdd]
  refine W_seq ?_
  refine wsr ?_
  refine xm rfl rfl rfl rfl ?_
  refine X_op' rfl (A_callV rfl rfl rfl rfl (.cons (V_t rfl) (K_t rfl) .nil) c9) ?_
  refine X_op' rfl (A_not rfl rfl) ?_
  refine xm rfl rfl rfl rfl ?_
  refine X_both (d := 21) rfl (fun hb2 => ?_) (fun hb2 => ?_)
  ·have khb2 := hb2; (try simp only [kb] at khb2)
   refine X_no1 rfl rfl rfl hb2 ?_
   refine X_no1 rfl rfl rfl hb2 ?_
   refine X_no1 rfl rfl rfl hb2 ?_
   refine X_op' rfl (A_pickT rfl rfl hb2 rfl) ?_
   refine xm rfl rfl rfl rfl ?_
   refine X_no1 rfl rfl rfl rfl ?_
   refine X_no1 rfl rfl rfl rfl ?_
   refine X_no1 rfl rfl rfl rfl ?_
   refine X_op' rfl (A_pickT rfl rfl rfl rfl) ?_
   refine xm rfl rfl rfl rfl ?_
   refine X_no1 rfl rfl rfl rfl ?_
   refine X_no1 rfl rfl rfl rfl ?_
   refine X_no1 rfl rfl rfl rfl ?_
   refine X_op' rfl (A_pickT rfl rfl rfl rfl) ?_
   refine X_endS ?_
   try dsimp only [St.put, szA, List.length, Nat.reduceAdd]
   refine W_condT rfl rfl ?_
   refine wsr ?_
   refine xa rfl rfl rfl rfl ?_
   refine X_endS ?_
   try dsimp only [St.put, szA, List.length, Nat.reduceAdd]
   refine W_ret ?_
   refine Q_seqX ?_
   exact end_R rfl (.t rfl .nil)
  ·have khb2 := hb2; (try simp only [kb] at khb2)
   refine X_yes' rfl rfl rfl hb2 (A_mvT (.inl rfl) rfl rfl) ?_
   refine X_yes' rfl rfl rfl hb2 (A_lenT rfl rfl rfl rfl rfl rfl rfl) ?_
   refine X_yes' rfl rfl rfl hb2 (A_int rfl rfl rfl ⟨by decide, by decide⟩ rfl) ?_
   refine X_op' rfl (A_pickF rfl rfl hb2 rfl) ?_
   refine xm rfl rfl rfl rfl ?_
   refine X_both (d := 26) rfl (fun hb3 => ?_) (fun hb3 => ?_)
   ·have khb3 := hb3; (try simp only [kb] at khb3)
    refine X_no1 rfl rfl rfl hb3 ?_
    refine X_no1 rfl rfl rfl hb3 ?_
    refine X_no1 rfl rfl rfl hb3 ?_
    refine X_op' rfl (A_pickT rfl rfl hb3 rfl) ?_
    refine xm rfl rfl rfl rfl ?_
    refine X_no1 rfl rfl rfl rfl ?_
    refine X_no1 rfl rfl rfl rfl ?_
    refine X_no1 rfl rfl rfl rfl ?_
    refine X_op' rfl (A_pickT rfl rfl rfl rfl) ?_
    refine X_endS ?_
    try dsimp only [St.put, szA, List.length, Nat.reduceAdd]
    refine W_condT rfl rfl ?_
    refine wsr ?_
    refine xa rfl rfl rfl rfl ?_
    refine X_endS ?_
    try dsimp only [St.put, szA, List.length, Nat.reduceAdd]
    refine W_ret ?_
    refine Q_seqX ?_
    exact end_R rfl (.t rfl .nil)
   ·have khb3 := hb3; (try simp only [kb] at khb3)
    refine X_yes' rfl rfl rfl hb3 (A_mvT (.inl rfl) rfl rfl) ?_
    refine X_yes' rfl rfl rfl hb3 (A_lenT rfl rfl rfl rfl rfl rfl rfl) ?_
    refine X_yes' rfl rfl rfl hb3 (A_int rfl rfl rfl ⟨by decide, by decide⟩ rfl) ?_
    refine X_op' rfl (A_pickF rfl rfl hb3 rfl) ?_
    refine xm rfl rfl rfl rfl ?_
    refine X_both (d := 31) rfl (fun hb4 => ?_) (fun hb4 => ?_)
    ·have khb4 := hb4; (try simp only [kb] at khb4)
     refine X_no1 rfl rfl rfl hb4 ?_
     refine X_no1 rfl rfl rfl hb4 ?_
     refine X_no1 rfl rfl rfl hb4 ?_
     refine X_op' rfl (A_pickT rfl rfl hb4 rfl) ?_
     refine X_endS ?_
     try dsimp only [St.put, szA, List.length, Nat.reduceAdd]
     refine W_condT rfl rfl ?_
     refine wsr ?_
     refine xa rfl rfl rfl rfl ?_
     refine X_endS ?_
     try dsimp only [St.put, szA, List.length, Nat.reduceAdd]
     refine W_ret ?_
     refine Q_seqX ?_
     exact end_R rfl (.t rfl .nil)
    ·have khb4 := hb4; (try simp only [kb] at khb4)
     refine X_yes' rfl rfl rfl hb4 (A_mvT (.inl rfl) rfl rfl) ?_
     refine X_yes' rfl rfl rfl hb4 (A_lenT rfl rfl rfl rfl rfl rfl rfl) ?_
     refine X_yes' rfl rfl rfl hb4 (A_int rfl rfl rfl ⟨by decide, by decide⟩ rfl) ?_
     refine X_op' rfl (A_pickF rfl rfl hb4 rfl) ?_
     refine X_endS ?_
     try dsimp only [St.put, szA, List.length, Nat.reduceAdd]
     refine W_condB rfl (fun hb5 => ?_) (fun hb5 => ?_)
     ·have khb5 := hb5; (try simp only [kb] at khb5)
      refine wsr ?_
      refine xa rfl rfl rfl rfl ?_
      refine X_endS ?_
      try dsimp only [St.put, szA, List.length, Nat.reduceAdd]
      refine W_ret ?_
      refine Q_seqX ?_
      exact end_R rfl (.t rfl .nil)
     ·have khb5 := hb5; (try simp only [kb] at khb5)
      refine W_skip ?_
      refine Q_seq ?_
      refine W_seq ?_
      refine wsr ?_
      refine xm rfl rfl rfl rfl ?_
      refine X_endS ?_
      try dsimp only [St.put, szA, List.length, Nat.reduceAdd]
      refine W_condT rfl rfl ?_
      refine wsr ?_
      have hx : xs.length ≤ 1099511627776 := by
        have hr : rawP xs := by simpa using khb2
        have := hr.1
        omega
      refine xm rfl rfl rfl rfl ?_
      refine xm rfl rfl rfl rfl ?_
      refine X_op' rfl (A_callO rfl rfl rfl rfl (.cons (V_t rfl) (K_t rfl) (.cons (V_t rfl) (K_t rfl) (.cons (V_t rfl) (K_t rfl) .nil))) (c10 hx hx0 (by omega) (by omega) (by omega))) ?_
      refine xm rfl rfl rfl rfl ?_
      refine xm rfl rfl rfl rfl ?_
      refine X_op' rfl (A_callO rfl rfl rfl rfl (.cons (V_t rfl) (K_t rfl) (.cons (V_t rfl) (K_t rfl) (.cons (V_t rfl) (K_t rfl) .nil))) (c10 hx hx0 (by omega) (by omega) (by omega))) ?_
      refine xm rfl rfl rfl rfl ?_
      refine xm rfl rfl rfl rfl ?_
      refine X_op' rfl (A_callO rfl rfl rfl rfl (.cons (V_t rfl) (K_t rfl) (.cons (V_t rfl) (K_t rfl) (.cons (V_t rfl) (K_t rfl) .nil))) (c10 hx hx0 (by omega) (by omega) (by omega))) ?_
      refine X_op' rfl (A_mvM (.inr rfl) rfl) ?_
      refine X_op' rfl (A_mvM (.inr rfl) rfl) ?_
      refine X_op' rfl (A_mvM (.inr rfl) rfl) ?_
      refine X_endS ?_
      try dsimp only [St.put, szA, List.length, Nat.reduceAdd]
      refine wsr ?_
      refine xa rfl rfl rfl rfl ?_
      refine X_endS ?_
      try dsimp only [St.put, szA, List.length, Nat.reduceAdd]
      refine W_blk ?_
      refine W_loop (fun nn σ => ∃ (i : Nat) (A B C : List Int) (k1 k2 k3 : Nat), k1 = xs.length ∧ k2 = xs.length ∧ k3 = xs.length ∧ A.length = xs.length ∧ B.length = xs.length ∧ C.length = xs.length ∧ (∀ j, i ≤ j → 0 ≤ A.getD j 0 ∧ A.getD j 0 < 20) ∧ (∀ j, i ≤ j → 0 ≤ B.getD j 0 ∧ B.getD j 0 < 20) ∧ σ = st3c xs A B C k1 k2 k3 i ∧ nn + i = xs.length) (xs.length) ?_ ⟨0, fitL lo 20 xs.length, fitL hi 20 xs.length, fitL is 3 xs.length, _, _, _, (by rw [List.length_map, fitL_len]), (by rw [List.length_map, fitL_len]), (by rw [List.length_map, fitL_len]), fitL_len _ _ _, fitL_len _ _ _, fitL_len _ _ _, (fun j _ => fitL_bound _ (by omega) _ _), (fun j _ => fitL_bound _ (by omega) _ _), (show _ = st3c xs (fitL lo 20 xs.length) (fitL hi 20 xs.length) (fitL is 3 xs.length) ((fitL lo 20 xs.length).map ii).length ((fitL hi 20 xs.length).map ii).length ((fitL is 3 xs.length).map ii).length (0 : Nat) by kernel_rfl), rfl⟩ (by omega)
      rintro nn _ ⟨i, A, B, C, k1, k2, k3, hk1, hk2, hk3, hA, hB, hC, hbA, hbB, rfl, hnn⟩
      refine W_seq ?_
      refine wsr ?_
      refine xm rfl rfl rfl rfl ?_
      refine xm rfl rfl rfl rfl ?_
      refine X_op' rfl (A_lenT rfl rfl rfl rfl rfl rfl rfl) ?_
      refine X_op' rfl (A_int rfl rfl rfl ⟨by decide, by decide⟩ rfl) ?_
      refine X_endS ?_
      try dsimp only [St.put, szA, List.length, Nat.reduceAdd]
      refine W_condB rfl (fun hb6 => ?_) (fun hb6 => ?_)
      ·have khb6 := hb6; (try simp only [kb] at khb6)
       refine W_skip ?_
       refine Q_seq ?_
       refine W_seq ?_
       refine W_blk ?_
       refine wsr ?_
       refine X_op' rfl (A_mvM (.inl rfl) rfl) ?_
       refine xm rfl rfl rfl rfl ?_
       refine X_op' rfl (A_ixO rfl rfl rfl rfl rfl rfl rfl (by omega) (by omega)) ?_
       refine X_op' rfl (A_ld rfl rfl rfl (ld_row (0 : Int) rfl (by first | omega | (simp only [List.length_set]; omega)) rfl rfl rfl)) ?_
       refine X_op' rfl (A_int rfl rfl rfl ⟨by decide, by decide⟩ (subI (by have h1 := hbA (0 + ((i : Int)).toNat) (by omega); omega))) ?_
       refine X_op' rfl (A_ixO rfl rfl rfl rfl rfl rfl rfl (by omega) (by omega)) ?_
       refine X_op' rfl (A_stR (0 : Int) rfl rfl rfl (V_t rfl) (K_t rfl) rfl rfl (by first | omega | (simp only [List.length_set]; omega)) rfl rfl rfl rfl rfl rfl) ?_
       refine X_endS ?_
       try dsimp only [St.put, szA, List.length, Nat.reduceAdd]
       refine W_reg ?_
       have hset : (A.set (0 + ((i : Int)).toNat) (A.getD (0 + ((i : Int)).toNat) 0 - 10)).getD (0 + ((i : Int)).toNat) 0 = A.getD (0 + ((i : Int)).toNat) 0 - 10 := getD_set_eq _ _ _ (by omega)
       refine X_op' rfl (A_mvM (.inl rfl) rfl) ?_
       refine xm rfl rfl rfl rfl ?_
       refine X_op' rfl (A_ixO rfl rfl rfl rfl rfl rfl rfl (by omega) (by omega)) ?_
       refine X_op' rfl (A_ld rfl rfl rfl (ld_row (0 : Int) rfl (by first | omega | (simp only [List.length_set]; omega)) rfl rfl rfl)) ?_
       refine X_op' rfl (A_mvM (.inl rfl) rfl) ?_
       refine xm rfl rfl rfl rfl ?_
       refine X_op' rfl (A_ixO rfl rfl rfl rfl rfl rfl rfl (by omega) (by omega)) ?_
       refine X_op' rfl (A_ld rfl rfl rfl (ld_row (0 : Int) rfl (by rw [List.length_set]; omega) rfl rfl rfl)) ?_
       refine X_op' rfl (A_int rfl rfl rfl ⟨by decide, by decide⟩ (addI (by have h1 := hbA (0 + ((i : Int)).toNat) (by omega); have h2 := hbB (0 + ((i : Int)).toNat) (by omega); omega))) ?_
       refine X_op' rfl (A_ixO rfl rfl rfl rfl rfl rfl rfl (by omega) (by omega)) ?_
       refine X_op' rfl (A_stR (0 : Int) rfl rfl rfl (V_t rfl) (K_t rfl) rfl rfl (by first | omega | (simp only [List.length_set]; omega)) rfl rfl rfl rfl rfl rfl) ?_
       refine X_endD (by kernel_rfl) (by kernel_rfl) ?_
       try dsimp only [St.put, szA, List.length, Nat.reduceAdd]
       refine Q_blkN ?_
       refine Q_seq ?_
       refine W_reg ?_
       refine xm rfl rfl rfl rfl ?_
       refine X_op' rfl (A_int rfl rfl rfl ⟨by decide, by decide⟩ (addI (by omega))) ?_
       refine xa rfl rfl rfl rfl ?_
       refine X_end ?_
       try dsimp only [St.put, szA, List.length, Nat.reduceAdd]
       try simp only [Int.toNat_natCast, Nat.zero_add] at *
       exact ⟨nn - 1, by omega, i + 1, A.set i (A.getD i 0 - 10), B.set i (B.getD i 0 + (A.set i (A.getD i 0 - 10)).getD i 0), C, k1, k2, k3, hk1, hk2, hk3, by rw [List.length_set]; exact hA, by rw [List.length_set]; exact hB, hC, fun j hj => by rw [NumA.getD_set_ne _ _ _ _ (by omega)]; exact hbA j (by omega), fun j hj => by rw [NumA.getD_set_ne _ _ _ _ (by omega)]; exact hbB j (by omega), Eq.trans (b := st3c xs (A.set i (A.getD i 0 - 10)) (B.set i (B.getD i 0 + (A.set i (A.getD i 0 - 10)).getD i 0)) C k1 k2 k3 ((i : Int) + 1)) (by kernel_rfl) rfl, by omega⟩
      ·have khb6 := hb6; (try simp only [kb] at khb6)
       refine W_exit ?_
       refine Q_seqX ?_
       refine Q_rndX ?_
       refine Q_blkE ?_
       refine Q_seq ?_
       refine W_exit ?_
       have hraw : rawP xs := by simpa using khb2
       exact ⟨rfl, ⟨hraw, rfl, rfl, Nat.le_of_ble_eq_true rfl, A, B, C, by have := hraw.1; omega, by have := hraw.1; omega, by have := hraw.1; omega, .inr ⟨0, 1, 2, by decide, by decide, by decide, by rw [hA, ← hk1]; rfl, by rw [hB, ← hk2]; rfl, by rw [hC, ← hk3]; rfl, rfl, rfl, rfl⟩⟩⟩
theorem E_fit {n : Nat} {xs : List Rr} {lo hi is : List Int} (w : ∀ x ∈ xs, x.ok n) (hn0 : 0 < n) (hn : n ≤ 1000000) {E : Option (Rat × Rat)} (hE : exP xs lo hi is = E) : (∀ q, E.map (·.1) = some q → Fit (1 + 64 * (n + 2)) q) ∧ ∀ q, E.map (·.2) = some q → Fit (1 + 64 * (n + 2)) q := by
  cases E with
  | none => exact ⟨fun q h => (by cases h), fun q h => (by cases h)⟩
  | some p =>
    obtain ⟨a, b⟩ := p
    have h := exP_fit w hn0 hn hE
    exact ⟨fun q hq => by simp at hq; subst hq; exact h.1, fun q hq => by simp at hq; subst hq; exact h.2⟩
theorem E_zero {xs : List Rr} {lo hi is : List Int} {E : Option (Rat × Rat)} (hE : exP xs lo hi is = E) (h : decide (0 < xs.length) = false) : (E.map (·.1) = none ∨ E.map (·.1) = some 0) ∧ (E.map (·.2) = none ∨ E.map (·.2) = some 0) := by
  rw [exP_exR] at hE
  have h0 : xs.length = 0 := by simpa using h
  rcases exR_zero (lo := lo) (hi := hi) (is := is) h0 with h1 | h1 <;> rw [h1] at hE <;> subst hE <;> simp
set_option maxHeartbeats 8000000 in
theorem post3 {xs : List Rr} {lo hi is : List Int} (w : ∀ x ∈ xs, x.ok 4) (hx : xs.length ≤ 30) (g1 : lo.length ≤ 1000) (g2 : hi.length ≤ 1000) (g3 : is.length ≤ 1000) (fuel : Nat) (hf : 1099511627776 < fuel) (c : Code) (hc : Tryz.f3.body = some c) (mm : List (Nat × Option O)) :
    WC ty sp3 0 keep3 fuel (cPost 3 c) 0 { tm := [(0, .t (tl xs)), (1, .t (ti lo)), (2, .t (ti hi)), (3, .t (ti is)), (10, .t (.v (.bool false)))], mm := mm, nx := 1000 } (EndQ ty false Tryz.f3.results (.ts [.v (.bool true)])) := by
  injection hc with hc
  subst hc
  refine wsr ?_
  refine xm rfl rfl rfl rfl ?_
  refine xm rfl rfl rfl rfl ?_
  refine xm rfl rfl rfl rfl ?_
  refine xm rfl rfl rfl rfl ?_
  obtain ⟨E, hE⟩ : ∃ E, exP xs lo hi is = E := ⟨_, rfl⟩
  have hf9 := E_fit w (by decide) (by decide) hE
  have hz9 := E_zero hE
  refine X_op' rfl (A_callV rfl rfl rfl rfl (.cons (V_t rfl) (K_t rfl) (.cons (V_t rfl) (K_t rfl) (.cons (V_t rfl) (K_t rfl) (.cons (V_t rfl) (K_t rfl) .nil)))) (cc11 w (by decide) (by decide) (by omega) (by omega) (by omega) (by omega) hE)) ?_
  refine X_op' rfl (A_mvU (.inl rfl) rfl) ?_
  refine X_op' rfl (A_ext rfl rfl rfl) ?_
  refine X_op' rfl (A_ext rfl rfl rfl) ?_
  refine X_op' rfl (A_ext rfl rfl rfl) ?_
  refine X_op' rfl (A_alloc rfl rfl) ?_
  refine X_op' rfl (A_alloc rfl rfl) ?_
  refine X_op' rfl (A_stV rfl rfl rfl (V_t rfl) (K_t rfl) rfl rfl rfl rfl rfl rfl rfl) ?_
  refine X_op' rfl (A_stV rfl rfl rfl (V_t rfl) (K_t rfl) rfl rfl rfl rfl rfl rfl rfl) ?_
  refine xa rfl rfl rfl rfl ?_
  refine X_endS ?_
  try dsimp only [St.put, szA, List.length, Nat.reduceAdd]
  refine wsr ?_
  refine xm rfl rfl rfl rfl ?_
  refine xm rfl rfl rfl rfl ?_
  refine xm rfl rfl rfl rfl ?_
  refine xm rfl rfl rfl rfl ?_
  refine X_op' rfl (A_callV rfl rfl rfl rfl (.cons (V_t rfl) (K_t rfl) (.cons (V_t rfl) (K_t rfl) (.cons (V_t rfl) (K_t rfl) (.cons (V_t rfl) (K_t rfl) .nil)))) (cc12 w (by decide) (by decide) (by omega) (by omega) (by omega) (by omega) hE)) ?_
  refine X_op' rfl (A_mvU (.inl rfl) rfl) ?_
  refine X_op' rfl (A_ext rfl rfl rfl) ?_
  refine X_op' rfl (A_ext rfl rfl rfl) ?_
  refine X_op' rfl (A_ext rfl rfl rfl) ?_
  refine X_op' rfl (A_alloc rfl rfl) ?_
  refine X_op' rfl (A_alloc rfl rfl) ?_
  refine X_op' rfl (A_stV rfl rfl rfl (V_t rfl) (K_t rfl) rfl rfl rfl rfl rfl rfl rfl) ?_
  refine X_op' rfl (A_stV rfl rfl rfl (V_t rfl) (K_t rfl) rfl rfl rfl rfl rfl rfl rfl) ?_
  refine xa rfl rfl rfl rfl ?_
  refine X_endS ?_
  try dsimp only [St.put, szA, List.length, Nat.reduceAdd]
  refine wsr ?_
  refine X_op' rfl (A_callV rfl rfl rfl rfl .nil c13) ?_
  refine xm rfl rfl rfl rfl ?_
  refine X_yes' rfl rfl rfl rfl (A_mvT (.inl rfl) rfl rfl) ?_
  refine X_yes' rfl rfl rfl rfl (A_mvT (.inl rfl) rfl rfl) ?_
  refine X_yes' rfl rfl rfl rfl (A_beq rfl rfl rfl rfl rfl) ?_
  refine X_op' rfl (A_pickT rfl rfl rfl rfl) ?_
  refine xm rfl rfl rfl rfl ?_
  refine X_both (d := 92) rfl (fun hb3 => ?_) (fun hb3 => ?_)
  ·have khb3 := hb3; (try simp only [kb] at khb3)
   refine X_yes' rfl rfl rfl hb3 (A_ld rfl rfl rfl (ld_mp rfl rfl rfl rfl rfl rfl)) ?_
   refine X_yes' rfl rfl rfl hb3 (A_ld rfl rfl rfl (ld_mp rfl rfl rfl rfl rfl rfl)) ?_
   refine X_yes' rfl rfl rfl hb3 (A_callV rfl rfl rfl rfl (.cons (V_t rfl) (K_t rfl) (.cons (V_t rfl) (K_t rfl) .nil)) (cmpE hf9.1 (fun h => (hz9 h).1) (by decide) (by decide))) ?_
   refine X_yes' rfl rfl rfl hb3 (A_int rfl rfl rfl ⟨by decide, by decide⟩ rfl) ?_
   refine X_op' rfl (A_pickT rfl rfl hb3 rfl) ?_
   refine xm rfl rfl rfl rfl ?_
   refine X_yes' rfl rfl rfl rfl (A_ld rfl rfl rfl (ld_mp rfl rfl rfl rfl rfl rfl)) ?_
   refine X_yes' rfl rfl rfl rfl (A_ld rfl rfl rfl (ld_mp rfl rfl rfl rfl rfl rfl)) ?_
   refine X_yes' rfl rfl rfl rfl (A_callV rfl rfl rfl rfl (.cons (V_t rfl) (K_t rfl) (.cons (V_t rfl) (K_t rfl) .nil)) (cmpE hf9.2 (fun h => (hz9 h).2) (by decide) (by decide))) ?_
   refine X_yes' rfl rfl rfl rfl (A_int rfl rfl rfl ⟨by decide, by decide⟩ rfl) ?_
   refine X_op' rfl (A_pickT rfl rfl rfl rfl) ?_
   refine xa rfl rfl rfl rfl ?_
   refine X_endS ?_
   try dsimp only [St.put, szA, List.length, Nat.reduceAdd]
   refine W_ret ?_
   exact end_R rfl (.t rfl .nil)
  ·have khb3 := hb3; (try simp only [kb] at khb3)
   exact absurd hb3 (by simp)
theorem freeze_put {P : Program} {w0 : World} {okA : Nat → Prop} {F : Pn} {N : Nat} {Fr : Nat → Prop} {ρ : Nat → Nat} {σ : St} {a : Act} {w : World} (h : Rel w0 okA F N Fr ρ σ a w) (t0 : Nat) (x : T) (hv : viewT (lookM σ.mm) (look σ.tm t0) = some x) :
    Rel w0 okA F N Fr ρ { tm := (t0, .t x) :: σ.tm, mm := kills (look σ.tm t0) ++ σ.mm, nx := σ.nx } a w :=
  h.freeze t0 x hv rfl fun t => by
    by_cases e : t0 = t
    · exact .inr (.inr ⟨e.symm, by simp only [look, if_pos e]⟩)
    · exact .inr (.inl (by simp only [look, if_neg e]))
theorem view_ms {m : Nat → Option O} {id : Nat} {l : List Int} (h : m id = some ⟨3, 1, l.map ii⟩) : viewT m (.ms id 1 0 l.length) = some (ti l) := by
  have := V_m (m := m) (q := ⟨3, 1, l.map ii⟩) (ev := fun _ => .ms id 1 0 l.length) (x := .const (.int .i64 0)) rfl h rfl (by simp)
  exact this
theorem X3.rel {xs : List Rr} {σ : St} (hX : X3 xs σ) {w0 : World} {okA : Nat → Prop} {F : Pn} {N : Nat} {ρ : Nat → Nat} {a : Act} {w : World} (h : Rel w0 okA F N (fun id => σ.nx ≤ id) ρ σ a w) :
    ∃ (lo hi is : List Int) (mm : List (Nat × Option O)), lo.length ≤ 1000 ∧ hi.length ≤ 1000 ∧ is.length ≤ 1000 ∧ RelS w0 okA F N { tm := [(0, .t (tl xs)), (1, .t (ti lo)), (2, .t (ti hi)), (3, .t (ti is)), (10, .t (.v (.bool false)))], mm := mm, nx := 1000 } a w := by
  have fin : ∀ (lo hi is : List Int) (σ2 : St), look σ2.tm 0 = .t (tl xs) → look σ2.tm 1 = .t (ti lo) → look σ2.tm 2 = .t (ti hi) → look σ2.tm 3 = .t (ti is) → look σ2.tm 10 = .t (.v (.bool false)) → Rel w0 okA F N (fun id => σ.nx ≤ id) ρ σ2 a w →
      RelS w0 okA F N { tm := [(0, .t (tl xs)), (1, .t (ti lo)), (2, .t (ti hi)), (3, .t (ti is)), (10, .t (.v (.bool false)))], mm := kills (look σ2.tm 0) ++ σ2.mm, nx := 1000 } a w := by
    intro lo hi is σ2 q0 q1 q2 q3 q10 hr
    refine ⟨ρ, Rel.weakFr (hr.freeze 0 (tl xs) (by rw [q0]; rfl) rfl fun t => ?_) (fun id hid => Nat.le_trans hX.nx hid)⟩
    by_cases e0 : t = 0
    · subst e0; exact .inr (.inl q0.symm)
    by_cases e1 : t = 1
    · subst e1; exact .inr (.inl q1.symm)
    by_cases e2 : t = 2
    · subst e2; exact .inr (.inl q2.symm)
    by_cases e3 : t = 3
    · subst e3; exact .inr (.inl q3.symm)
    by_cases e10 : t = 10
    · subst e10; exact .inr (.inl q10.symm)
    refine .inl ?_
    simp only [look, if_neg (Ne.symm e0), if_neg (Ne.symm e1), if_neg (Ne.symm e2), if_neg (Ne.symm e3), if_neg (Ne.symm e10)]
  obtain ⟨lo, hi, is, l1, l2, l3, hc⟩ := hX.ls
  rcases hc with ⟨q1, q2, q3⟩ | ⟨ia, ib, ic, nab, nac, nbc, q1, q2, q3, ma, mb, mc⟩
  · exact ⟨lo, hi, is, _, l1, l2, l3, fin lo hi is σ hX.t0 q1 q2 q3 hX.t10 h⟩
  · have r1 := freeze_put (P := Tryz.prog) h 1 (ti lo) (by rw [q1]; exact view_ms ma)
    have r2 := freeze_put (P := Tryz.prog) r1 2 (ti hi) (by
      show viewT _ (look σ.tm 2) = _
      rw [q2]
      refine view_ms ?_
      show lookM (kills (look σ.tm 1) ++ σ.mm) ib = _
      rw [q1]
      show (if ia = ib then none else lookM σ.mm ib) = _
      rw [if_neg nab]; exact mb)
    have r3 := freeze_put (P := Tryz.prog) r2 3 (ti is) (by
      show viewT _ (look σ.tm 3) = _
      rw [q3]
      refine view_ms ?_
      show lookM (kills (look σ.tm 2) ++ (kills (look σ.tm 1) ++ σ.mm)) ic = _
      rw [q1, q2]
      show (if ib = ic then none else if ia = ic then none else lookM σ.mm ic) = _
      rw [if_neg nbc, if_neg nac]; exact mc)
    refine ⟨lo, hi, is, _, l1, l2, l3, fin lo hi is _ ?_ ?_ ?_ ?_ ?_ r3⟩
    · exact hX.t0
    · rfl
    · rfl
    · rfl
    · exact hX.t10
theorem fin3 {xs : List Rr} {lo hi is : List Int} {near : Bool} (hU : ∀ x ∈ xs, U32 x.l ∧ U32 x.k) {w0 : World} {okA : Nat → Prop} {ρ0 : Nat → Nat} {a : Act} {w' : World}
    (hr : RelS w0 okA ⟨0, ρ0⟩ Tryz.f3.ntmps { tm := [tl xs, ti lo, ti hi, ti is, .v (.bool near)].zipIdx.map fun p => (p.2, .t p.1), mm := [], nx := 0 } a w') :
    (Tryz.f3.body.getD .skip).wp Tryz.prog (FinQ ty w0 okA ⟨0, ρ0⟩ Tryz.f3.ntmps Tryz.f3.results (.ts [.v (.bool true)])) a w' := by
  have hpre : WC ty sp3 0 keep3 4398046511104 (cPre 3 (Tryz.f3.body.getD .skip)) 0 { tm := [tl xs, ti lo, ti hi, ti is, .v (.bool near)].zipIdx.map fun p => (p.2, .t p.1), mm := [], nx := 0 } (CutQ ty Tryz.f3.results (.ts [.v (.bool true)]) (X3 xs)) := by
    cases near with
    | false => exact pre3a 4398046511104 (by decide) _ rfl
    | true =>
      cases xs with
      | nil => exact pre3b 4398046511104 (by decide) _ rfl
      | cons x xs => exact pre3c (by simp) 4398046511104 (by decide) _ rfl
  refine cut_run (F := ⟨0, ρ0⟩) (k := 3) (bid := 0) mixed ty_ok hs3 hpre (by kernel_rfl) (by kernel_rfl) hr fun σ' ρ a' w2 hX hrel => ?_
  obtain ⟨lo', hi', is', mm, g1, g2, g3, hS⟩ := hX.rel hrel
  exact fin_wc (F := ⟨0, ρ0⟩) mixed ty_ok hs3 (post3 (raw_ok hU hX.raw) hX.raw.1 g1 g2 g3 4398046511104 (by decide) _ rfl mm) (by kernel_rfl) hS
end Go.Ev.S
/- Laws' arguments: what trees they are. -/
set_option linter.unusedVariables false
set_option maxRecDepth 100000
namespace Go.Ev
open Go
theorem list_of {α : Type} {f : α → T} {Q : α → Prop} : ∀ {l : List T}, (∀ y ∈ l, ∃ z, y = f z ∧ Q z) → ∃ zs : List α, l = zs.map f ∧ ∀ z ∈ zs, Q z
  | [], _ => ⟨[], rfl, by simp⟩
  | y :: l, h => by
    obtain ⟨z, rfl, hz⟩ := h y (by simp)
    obtain ⟨zs, rfl, h2⟩ := list_of (l := l) fun y hy => h y (List.mem_cons_of_mem _ hy)
    exact ⟨z :: zs, rfl, fun q hq => (List.mem_cons.1 hq).elim (fun e => e ▸ hz) (h2 q)⟩
theorem ofTy_int {P : Program} {n t : Nat} {y : T} {k : IntKind} (hu : P.underlying t = some (.int k)) (h : OfTy P (n + 1) t y) : ∃ z, y = .v (.int k z) ∧ (Lit.int k z).wf = true := by
  simpa only [OfTy, hu] using h
theorem ofTy_bool {P : Program} {n t : Nat} {y : T} (hu : P.underlying t = some .bool) (h : OfTy P (n + 1) t y) : ∃ b, y = .v (.bool b) := by
  simpa only [OfTy, hu] using h
theorem ofTy_slice {P : Program} {n t e : Nat} {y : T} (hu : P.underlying t = some (.slice e)) (h : OfTy P (n + 1) t y) : ∃ l, y = .sl (P.cellsOf e) l ∧ l.length ≤ maxLen ∧ ∀ y ∈ l, OfTy P n e y := by
  simpa only [OfTy, hu] using h
def fieldTypes : Option TypeDesc → List Nat
  | some (.struct fs) => fs.toList.map (·.type)
  | _ => []
theorem ofTy_struct2 {P : Program} {n t a b : Nat} {y : T} (hm : fieldTypes (P.underlying t) = [a, b]) (h : OfTy P (n + 1) t y) : ∃ ya yb, OfTy P n a ya ∧ OfTy P n b yb ∧ y = .agg (ya.cells ++ yb.cells) := by
  unfold fieldTypes at hm
  split at hm
  · rename_i fs hu
    simp only [OfTy, hu] at h
    obtain ⟨ys, h1, h2, rfl⟩ := h
    have hl : fs.toList.length = 2 := by rw [← List.length_map (f := fun x : Field => x.type), hm]; rfl
    match ys, h1 with
    | [ya, yb], h1 =>
      have e0 : (fs.toList.map (·.type))[0]? = some a := by rw [hm]; rfl
      have e1 : (fs.toList.map (·.type))[1]? = some b := by rw [hm]; rfl
      rw [List.getElem?_map] at e0 e1
      obtain ⟨f0, g0, rfl⟩ := Option.map_eq_some_iff.1 e0
      obtain ⟨f1, g1, rfl⟩ := Option.map_eq_some_iff.1 e1
      exact ⟨ya, yb, h2 0 f0 ya (by simpa using g0) rfl, h2 1 f1 yb (by simpa using g1) rfl, by simp⟩
    | [], h1 => simp at h1; simp [← h1] at hl
    | [_], h1 => simp at h1; simp [← h1] at hl
    | _ :: _ :: _ :: _, h1 => simp at h1; simp [← h1] at hl
  · cases hm
theorem wf_i64 {z : Int} (h : (Lit.int .i64 z).wf = true) : -9223372036854775808 ≤ z ∧ z < 9223372036854775808 := by
  simp [Lit.wf, IntKind.min, IntKind.max, IntKind.signed, IntKind.bits] at h; omega
theorem wf_u32 {z : Int} (h : (Lit.int .u32 z).wf = true) : 0 ≤ z ∧ z < 4294967296 := by
  simp [Lit.wf, IntKind.min, IntKind.max, IntKind.signed, IntKind.bits] at h; omega
namespace S
open Go.Proofs NumA
theorem ofTy_ints {n : Nat} {y : T} (h : OfTy Tryz.prog (n + 2) 23 y) : ∃ l : List Int, y = ti l ∧ l.length ≤ maxLen ∧ ∀ z ∈ l, -9223372036854775808 ≤ z ∧ z < 9223372036854775808 := by
  obtain ⟨l, rfl, hl, h1⟩ := ofTy_slice (e := 3) (by kernel_rfl) h
  obtain ⟨zs, rfl, hz⟩ := list_of (f := ii) (Q := fun z => (Lit.int .i64 z).wf = true) fun y hy => ofTy_int (by kernel_rfl) (h1 y hy)
  exact ⟨zs, by rw [show Tryz.prog.cellsOf 3 = 1 by kernel_rfl], by simpa using hl, fun z hz' => wf_i64 (hz z hz')⟩
theorem ofTy_nat {n : Nat} {y : T} (h : OfTy Tryz.prog (n + 2) 26 y) : ∃ l : List Int, y = tn l ∧ U32 l := by
  obtain ⟨l, rfl, _, h1⟩ := ofTy_slice (e := 61) (by kernel_rfl) h
  obtain ⟨zs, rfl, hz⟩ := list_of (f := lim) (Q := fun z => (Lit.int .u32 z).wf = true) fun y hy => ofTy_int (by kernel_rfl) (h1 y hy)
  exact ⟨zs, by rw [show Tryz.prog.cellsOf 61 = 1 by kernel_rfl], fun z hz' => wf_u32 (hz z hz')⟩
theorem ofTy_rat {n : Nat} {y : T} (h : OfTy Tryz.prog (n + 4) 30 y) : ∃ x : Rr, y = x.t ∧ U32 x.l ∧ U32 x.k := by
  obtain ⟨ya, yb, ha, hb, rfl⟩ := ofTy_struct2 (a := 28) (b := 26) (by kernel_rfl) h
  obtain ⟨y0, y1, h0, h1, rfl⟩ := ofTy_struct2 (a := 4) (b := 26) (by kernel_rfl) ha
  obtain ⟨b, rfl⟩ := ofTy_bool (by kernel_rfl) h0
  obtain ⟨l, rfl, hl⟩ := ofTy_nat h1
  obtain ⟨k, rfl, hk⟩ := ofTy_nat hb
  exact ⟨⟨b, l, k⟩, rfl, hl, hk⟩
theorem ofTy_rats {n : Nat} {y : T} (h : OfTy Tryz.prog (n + 5) 22 y) : ∃ xs : List Rr, y = tl xs ∧ xs.length ≤ maxLen ∧ ∀ x ∈ xs, U32 x.l ∧ U32 x.k := by
  obtain ⟨l, rfl, hl, h1⟩ := ofTy_slice (e := 30) (by kernel_rfl) h
  obtain ⟨zs, rfl, hz⟩ := list_of (f := Rr.t) (Q := fun x => U32 x.l ∧ U32 x.k) fun y hy => ofTy_rat (h1 y hy)
  exact ⟨zs, by rw [show Tryz.prog.cellsOf 30 = 3 by kernel_rfl], by simpa using hl, hz⟩
theorem sup22 : supp Tryz.prog 5 22 = true := by kernel_rfl
theorem sup23 : supp Tryz.prog 5 23 = true := by kernel_rfl
end S
end Go.Ev
/- The least and the greatest value of a linear function over a box are what the reference says: for every input the law ScreenExtremes returns true. -/
set_option linter.unusedVariables false
set_option maxRecDepth 100000
namespace Go.Proofs.YtlnddlmppngegaaGreat.screenExtremes
open Go.ChangeShapes Go.WideShapes Go.ChangeAt Go.RowKit Go.Ev Go.Ev.S
open Go Go.Proofs
theorem own : ownKnob Tryz.prog.godebug = none := by kernel_rfl
theorem laidOut : laidOutB Tryz.prog = true := by kernel_rfl
theorem walk {W : World} {ok : Nat → Prop} {xs : List Rr} {lo hi is : List Int} {near : Bool} (hU : ∀ x ∈ xs, NumA.U32 x.l ∧ NumA.U32 x.k) {vals : List Value} (hr : RelL W ok [tl xs, ti lo, ti hi, ti is, .v (.bool near)] vals) :
    Calls Tryz.prog 3 vals.toArray W fun e w' => e = .returned (.bool true) ∧ Below W.heap.size W w' :=
  law_calls ty_ok (c := Tryz.f3.body.getD .skip) Tryz.func3 rfl (enters_of Tryz.func3 (by kernel_rfl) rfl) [tl xs, ti lo, ti hi, ti is, .v (.bool near)] (show 5 ≤ Tryz.f3.ntmps by decide) (fun okA ρ0 w a h => fin3 hU h) hr
theorem lifted (os : Os) (started : os.Started) (H : Type) (enc : TypeId × Value → H) :
    ReturnsInHanded {} Tryz.checked os 3 .any (Rows.screenExtremesSpec.pre6 enc Tryz.prog Tryz.f3 Rows.screenExtremesRow.domain false) (Rows.screenExtremesSpec.post enc Tryz.prog Tryz.f3 false true false false) := by
  refine returnsInHanded_of_change_sized (C := Tryz.checked) own started (by kernel_rfl) Tryz.func3
    (ChangeSpec.witness6 (enc := enc) (C := Tryz.checked) false ⟨#[], #[.slice none 0 0, .slice none 0 0, .slice none 0 0, .slice none 0 0, .bool false], []⟩ 8 (by kernel_rfl) (by kernel_rfl) (by kernel_rfl) (by kernel_rfl)) ?_
  intro W base args ds gs before hval0 hW hcnd hsz0 _
  have hval : ∀ (j : Nat) t v, Tryz.f3.params[j]? = some t → args[j]? = some v → Value.okWide Tryz.prog W .any base t v := hval0
  have hW' := hW
  obtain ⟨p, q, hA0, hV, rfl, hfz, hnd⟩ := hW
  have hA : DataW.TrodAll enc Tryz.prog W 0 (fun _ => true) true Tryz.f3.params.toList args.toList ds p := hA0
  rw [Tryz.params3] at hA hval
  obtain ⟨v0, vs0, d0, ds0, p0, q0, hargs, rfl, rfl, h0, r0⟩ := trodAll_cons hA
  obtain ⟨v1, vs1, d1, ds1, p1, q1, rfl, rfl, rfl, h1, r1⟩ := trodAll_cons r0
  obtain ⟨v2, vs2, d2, ds2, p2, q2, rfl, rfl, rfl, h2, r2⟩ := trodAll_cons r1
  obtain ⟨v3, vs3, d3, ds3, p3, q3, rfl, rfl, rfl, h3, r3⟩ := trodAll_cons r2
  obtain ⟨v4, vs4, d4, ds4, p4, q4, rfl, rfl, rfl, h4, r4⟩ := trodAll_cons r3
  obtain ⟨rfl, rfl, rfl⟩ := trodAll_nil r4
  obtain rfl : args = #[v0, v1, v2, v3, v4] := by cases args; simp_all
  obtain ⟨rfl, rfl⟩ := trodVars_none hV
  have lt : ∀ {t v d ps}, DataW.Trod enc Tryz.prog W 0 (fun _ => true) true t v d ps → ∀ x ∈ ps, x.block < W.heap.size := fun ⟨m, hm⟩ => DataW.trod_lt m _ _ _ hm
  obtain ⟨a0, b0, c0, rfl⟩ := okWide_slice (e := 30) (by kernel_rfl) (hval 0 22 v0 rfl rfl)
  obtain ⟨a1, b1, c1, rfl⟩ := okWide_slice (e := 3) (by kernel_rfl) (hval 1 23 v1 rfl rfl)
  obtain ⟨a2, b2, c2, rfl⟩ := okWide_slice (e := 3) (by kernel_rfl) (hval 2 23 v2 rfl rfl)
  obtain ⟨a3, b3, c3, rfl⟩ := okWide_slice (e := 3) (by kernel_rfl) (hval 3 23 v3 rfl rfl)
  obtain ⟨y0, o0, R0⟩ := tree_one (n := 5) sup22 h0 rfl (fun fs e => by rw [show Tryz.prog.underlying 22 = some (.slice 30) by kernel_rfl] at e; cases e)
  obtain ⟨y1, o1, R1⟩ := tree_one (n := 5) sup23 h1 rfl (fun fs e => by rw [show Tryz.prog.underlying 23 = some (.slice 3) by kernel_rfl] at e; cases e)
  obtain ⟨y2, o2, R2⟩ := tree_one (n := 5) sup23 h2 rfl (fun fs e => by rw [show Tryz.prog.underlying 23 = some (.slice 3) by kernel_rfl] at e; cases e)
  obtain ⟨y3, o3, R3⟩ := tree_one (n := 5) sup23 h3 rfl (fun fs e => by rw [show Tryz.prog.underlying 23 = some (.slice 3) by kernel_rfl] at e; cases e)
  obtain ⟨xs, rfl, _, hU⟩ := ofTy_rats o0
  obtain ⟨lo, rfl, _, _⟩ := ofTy_ints o1
  obtain ⟨hi, rfl, _, _⟩ := ofTy_ints o2
  obtain ⟨is, rfl, _, _⟩ := ofTy_ints o3
  obtain ⟨near, rfl, rfl, rfl⟩ := open_bool (t := 4) (by kernel_rfl) (hval 4 4 v4 rfl rfl) h4
  have hr : RelL W (fun b => b < W.heap.size) [tl xs, ti lo, ti hi, ti is, .v (.bool near)] [.slice a0 b0 c0, .slice a1 b1 c1, .slice a2 b2 c2, .slice a3 b3 c3, .bool near] := by
    simp only [RelL]
    exact ⟨_, _, rfl, R0, _, _, rfl, R1, _, _, rfl, R2, _, _, rfl, R3, _, _, rfl, by simp only [RelT], rfl⟩
  refine (walk hU hr).mono fun e W' ⟨he, bel⟩ => ?_
  subst he
  have bk : ∀ {t v d ps}, Tryz.prog.readableRec t = true → t < Tryz.prog.types.size → DataW.Trod enc Tryz.prog W 0 (fun _ => true) true t v d ps → DataW.Trod enc Tryz.prog W' 0 (fun b => decide (b < W.heap.size)) true t v d ps := fun hr hs h => Below.trod laidOut hr hs h bel (lt h)
  exact ⟨_, rfl, _, _, _, [], _, [], hW', trodAll_mk1 (shut_bool (t := 4) (by kernel_rfl) _), trodAll_cons_mk (bk (by kernel_rfl) (of_decide_eq_true (by kernel_rfl)) h0) (trodAll_cons_mk (bk (by kernel_rfl) (of_decide_eq_true (by kernel_rfl)) h1) (trodAll_cons_mk (bk (by kernel_rfl) (of_decide_eq_true (by kernel_rfl)) h2) (trodAll_cons_mk (bk (by kernel_rfl) (of_decide_eq_true (by kernel_rfl)) h3) (trodAll_cons_mk (shut_bool (by kernel_rfl) _) trodAll_mk0)))), rfl, bel.frame _, fun h => by cases h⟩
theorem over : Rows.screenExtremesRow.holds Tryz.pinned (OpenSpec.ofChange Rows.screenExtremesSpec) :=
  OpenClaim.holds_of_wide 3 Tryz.f3 rfl rfl rfl rfl rfl rfl rfl ⟨rfl, rfl, rfl, rfl, rfl⟩ rfl rfl rfl rfl rfl (by kernel_rfl) Tryz.func3 (by kernel_rfl)
    (of_decide_eq_true (by kernel_rfl)) (by unfold Func.isWrapper; first | (rw [if_pos (by decide +kernel)]; kernel_rfl) | (rw [if_neg (by decide +kernel)]; exact ⟨rfl, rfl⟩))
    (fun os started H enc _ => lifted os started H enc)
theorem proved : Rows.ScreenExtremesSaid := over
end Go.Proofs.YtlnddlmppngegaaGreat.screenExtremes
namespace Go.Proofs.YtlnddlmppngegaaGreat
/-- The row, under a short name, for the claim. -/
theorem screenExtremes_holds : Rows.ScreenExtremesSaid := screenExtremes.proved
#print axioms screenExtremes_holds
end Go.Proofs.YtlnddlmppngegaaGreat
