import PyProof.Rows.All
import Wide.All
import OpenK.AllK
import Wide.FinOn
import PySem.Challenge.RW_xm0052_01
open PySem PySem.W PyProof.Rows
set_option Elab.async false

namespace Mine
set_option maxRecDepth 100000 in
set_option maxHeartbeats 8000000 in
open_top hd for PySem.Challenge.rw_xm0052_01
set_option maxRecDepth 100000
set_option maxHeartbeats 8000000
-- the head leaves the top's lines on
theorem top_off : True := by
  w_top off
  exact True.intro
-- every key: the words that the theorem at hand has said
local macro_rules | `(tactic| walk_at $s:str) => `(tactic| k_extra $s)
local macro_rules | `(tactic| k_ne) => `(tactic| k_extra "k_ne")
local macro_rules | `(tactic| k_all) => `(tactic| k_extra "k_all")
local macro_rules | `(tactic| k_upd) => `(tactic| k_extra "k_upd")
local macro_rules | `(tactic| k_updF) => `(tactic| k_extra "k_updF")
local macro_rules | `(tactic| k_room) => `(tactic| ktr_room)
local macro_rules | `(tactic| k_units) => `(tactic| k_extra "k_units")
local macro_rules | `(tactic| ktr_rel) => `(tactic| k_extra "ktr_rel")
local macro_rules | `(tactic| ktr_room) => `(tactic| k_extra "ktr_room")
local macro_rules | `(tactic| ktr_units) => `(tactic| k_extra "ktr_units")
theorem roomL {x b c d l : Nat} (h : x + b < l) (e : c + d ≤ b) : x + c + d < l := by omega
theorem fitI {x : Int} (h : 0 ≤ x) (h' : x < 8192) : -2147483648 ≤ x ∧ x < 2147483648 := by omega
theorem fitM {x : Int} (h : 0 ≤ x ∧ x ≤ 67092481) : -2147483648 ≤ x ∧ x < 2147483648 := by omega
theorem fitA {x y n : Int} (h2 : n < 8192) (h3 : 0 ≤ x) (h4 : x < n) (h5 : 0 ≤ y) (h6 : y < n) : -2147483648 ≤ x + y ∧ x + y < 2147483648 := by omega
theorem fitS {x y : Int} (h3 : 0 ≤ x) (h4 : x < 70000000) (h5 : 0 ≤ y) (h6 : y < 8192) : -2147483648 ≤ x - y ∧ x - y < 2147483648 := by omega
section
/-- a call of the def at f: from any frame below, with room for n frames -/
def Says (n : Nat) (w : World) (p : Program) (loose : List Str) (mean : ExcName → Option Value) (mg mb : Str → Option Value) (f : Addr) (pre : Prop) (vs : List Value) (R : Tok → Value) : Prop :=
  ∀ (dp un : Nat) (gd : Option (List Code)) (cn : Str) (cs : Scope) (a : Addr) (ccd : Value) (cl : List (Str × Addr)) (outer : List Env) (A₀ : Around) (base h₀ : Heap) (L : Addr) (m : Str → Option Value) (news : List (Addr × Obj)) (s : Shared) (Q E : Value → Shared → Prop),
    Below A₀ base outer h₀ → Fr h₀ L s.heap m → Frag.In (hd.heap_39 w.params) h₀ → News h₀ L s.heap news → Top p loose mean mg mb h₀ → cs.kind = .function →
    pre → dp + n < recursionLimit → un + 64 * n < cLine → CbRet h₀ L m news s Q R →
      wpAny (model PySem.Challenge.rw_xm0052_01.row.prog w) (ktrTop dp un gd cn cs L a ccd cl outer) (call (.ref f) vs) Q E s
theorem Says.use {n : Nat} {w : World} {p : Program} {loose : List Str} {mean : ExcName → Option Value} {mg mb : Str → Option Value} {f : Addr} {pre : Prop} {vs : List Value} {R : Tok → Value} (C : Says n w p loose mean mg mb f pre vs R)
    {dp un : Nat} {gd : Option (List Code)} {cn : Str} {cs : Scope} {a : Addr} {ccd : Value} {cl : List (Str × Addr)} {outer : List Env} {A₀ : Around} {base h₀ : Heap} {L : Addr} {m : Str → Option Value} {news : List (Addr × Obj)} {s : Shared} {Q E : Value → Shared → Prop}
    (B : Below A₀ base outer h₀) (F : Fr h₀ L s.heap m) (X : Frag.In (hd.heap_39 w.params) h₀) (N : News h₀ L s.heap news) (T : Top p loose mean mg mb h₀) (hk : cs.kind = .function)
    (hp : pre) (hd : dp + n < recursionLimit) (hu : un + 64 * n < cLine) (ret : ∀ (t : Tok) (h' : Heap) (tk' : Nat), Fr h₀ L h' m → News h₀ L h' news → Q (R t) { s with heap := h', toks := tk' }) :
      wpAny (model PySem.Challenge.rw_xm0052_01.row.prog w) (ktrTop dp un gd cn cs L a ccd cl outer) (call (.ref f) vs) Q E s :=
  C _ _ _ _ _ _ _ _ _ _ _ _ _ _ _ _ _ _ B F X N T hk hp hd hu ret
theorem abs_nn {prog w A E} {s : Shared} {a : Int} {t : Tok} {Q : Value → Shared → Prop} (h0 : 0 ≤ a) (h : ∀ u tk, Q (.int a u) { s with toks := tk }) : wpAny (model prog w) A (call (.builtin "abs") [.int a t]) Q E s :=
  call_abs_int (by rw [if_neg (by omega)]; exact h)
theorem abs_ng {prog w A E} {s : Shared} {a : Int} {t : Tok} {Q : Value → Shared → Prop} (h0 : a < 0) (h : ∀ u tk, Q (.int (-a) u) { s with toks := tk }) : wpAny (model prog w) A (call (.builtin "abs") [.int a t]) Q E s :=
  call_abs_int (by rw [if_pos h0]; exact h)
theorem fits_says {w p loose mean mg mb} (x : Int) (tx tb : Tok) :
    Says 1 w p loose mean mg mb 72 (-2147483648 ≤ x ∧ x < 2147483648) [.int x tx, .int 32 tb] (fun _ => .bool true) := by
  k_with_none
  k_with "ktr_rel" => (( (case k1 => k_asm); (case k2 => k_asm); (case k3 => k_asm); (case k4 => k_asm); (case k5 => k_asm); (case kK => first | exact rfl | assumption); (case kp => first | trivial | with_reducible assumption | ((repeat' refine And.intro ?_ ?_) <;> first | with_reducible assumption | exact And.left (by with_reducible assumption) | exact And.right (by with_reducible assumption) | decide | omega) | omega | fail "premise"); (case kd => ktr_room); (case ku => ktr_units); k_whole; intro _ _ _ _ _; (try dsimp only); (try k_fold)))
  k_with "ktr_room" => (first | (refine' roomL ?ra ?rb; (case ra => with_reducible assumption); (case rb => exact Nat.le_of_ble_eq_true rfl)) | fail "room")
  k_with "ktr_units" => (first | (refine' roomL ?ra ?rb; (case ra => with_reducible assumption); (case rb => exact Nat.le_of_ble_eq_true rfl)) | fail "room")
  k_with "k_units" => (first | exact Nat.le_of_ble_eq_true rfl | ktr_units)
  k_with "ite" => ((k_here; k_openite; first | (refine ite_pos (by (simp only [decide_eq_true_eq, beq_iff_eq, bne_iff_ne, ne_eq]; omega)) ?_; walk_say "MINE") | (refine ite_neg (by (simp only [decide_eq_true_eq, beq_iff_eq, bne_iff_ne, ne_eq]; omega)) ?_; walk_say "MINE")))
  k_with "call builtin:abs" => ((k_here; (first | refine abs_nn (by omega) ?_ | refine abs_ng (by omega) ?_); intro _ _))
  unfold Says CbRet
  k_fill
  intros
  rename_i hpre _ _ hret
  refine wpAny_call ?_
  k_dflt cell_enter
  k_steps
  all_goals (cb_end hret)
theorem settled_says {w p loose mean mg mb} (x : Int) (tx tb td : Tok) :
    Says 2 w p loose mean mg mb 183 (-2147483648 ≤ x ∧ x < 2147483648) [.int x tx, .int 32 tb, .int 9 td] (fun t => .int x t) := by
  k_with_none
  k_with "ktr_rel" => (( (case k1 => k_asm); (case k2 => k_asm); (case k3 => k_asm); (case k4 => k_asm); (case k5 => k_asm); (case kK => first | exact rfl | assumption); (case kp => first | trivial | with_reducible assumption | ((repeat' refine And.intro ?_ ?_) <;> first | with_reducible assumption | exact And.left (by with_reducible assumption) | exact And.right (by with_reducible assumption) | decide | omega) | omega | fail "premise"); (case kd => ktr_room); (case ku => ktr_units); k_whole; intro _ _ _ _ _; (try dsimp only); (try k_fold)))
  k_with "ktr_room" => (first | (refine' roomL ?ra ?rb; (case ra => with_reducible assumption); (case rb => exact Nat.le_of_ble_eq_true rfl)) | fail "room")
  k_with "ktr_units" => (first | (refine' roomL ?ra ?rb; (case ra => with_reducible assumption); (case rb => exact Nat.le_of_ble_eq_true rfl)) | fail "room")
  k_with "k_units" => (first | exact Nat.le_of_ble_eq_true rfl | ktr_units)
  k_with "ite" => ((k_here; k_openite; first | (refine ite_pos (by (simp only [decide_eq_true_eq, beq_iff_eq, bne_iff_ne, ne_eq]; omega)) ?_; walk_say "MINE") | (refine ite_neg (by (simp only [decide_eq_true_eq, beq_iff_eq, bne_iff_ne, ne_eq]; omega)) ?_; walk_say "MINE")))
  k_with "call builtin:abs" => ((k_here; (first | refine abs_nn (by omega) ?_ | refine abs_ng (by omega) ?_); intro _ _))
  k_with "call ref" => ((k_here; k_dflt (refine' Says.use (fits_says _ _ _) ?k1 ?k2 ?k3 ?k4 ?k5 ?kK ?kp ?kd ?ku ?_; ktr_rel)))
  unfold Says CbRet
  k_fill
  intros
  rename_i hpre _ _ hret
  refine wpAny_call ?_
  k_dflt cell_enter
  k_steps
  all_goals (cb_end hret)
theorem whole_of_says {w p loose mean mg mb} (x : Int) (tx tb : Tok) :
    Says 2 w p loose mean mg mb 79 (-2147483648 ≤ x ∧ x < 2147483648) [.int x tx, .int 32 tb] (fun t => .int x t) := by
  k_with_none
  k_with "ktr_rel" => (( (case k1 => k_asm); (case k2 => k_asm); (case k3 => k_asm); (case k4 => k_asm); (case k5 => k_asm); (case kK => first | exact rfl | assumption); (case kp => first | trivial | with_reducible assumption | ((repeat' refine And.intro ?_ ?_) <;> first | with_reducible assumption | exact And.left (by with_reducible assumption) | exact And.right (by with_reducible assumption) | decide | omega) | omega | fail "premise"); (case kd => ktr_room); (case ku => ktr_units); k_whole; intro _ _ _ _ _; (try dsimp only); (try k_fold)))
  k_with "ktr_room" => (first | (refine' roomL ?ra ?rb; (case ra => with_reducible assumption); (case rb => exact Nat.le_of_ble_eq_true rfl)) | fail "room")
  k_with "ktr_units" => (first | (refine' roomL ?ra ?rb; (case ra => with_reducible assumption); (case rb => exact Nat.le_of_ble_eq_true rfl)) | fail "room")
  k_with "k_units" => (first | exact Nat.le_of_ble_eq_true rfl | ktr_units)
  k_with "ite" => ((k_here; k_openite; first | (refine ite_pos (by (simp only [decide_eq_true_eq, beq_iff_eq, bne_iff_ne, ne_eq]; omega)) ?_; walk_say "MINE") | (refine ite_neg (by (simp only [decide_eq_true_eq, beq_iff_eq, bne_iff_ne, ne_eq]; omega)) ?_; walk_say "MINE")))
  k_with "call builtin:abs" => ((k_here; (first | refine abs_nn (by omega) ?_ | refine abs_ng (by omega) ?_); intro _ _))
  k_with "call ref" => ((k_here; k_dflt (refine' Says.use (fits_says _ _ _) ?k1 ?k2 ?k3 ?k4 ?k5 ?kK ?kp ?kd ?ku ?_; ktr_rel)))
  unfold Says CbRet
  k_fill
  intros
  rename_i hpre _ _ hret
  refine wpAny_call ?_
  k_dflt cell_enter
  k_steps
  all_goals (cb_end hret)
theorem is_whole_says {w p loose mean mg mb} (x : Int) (tx : Tok) :
    Says 1 w p loose mean mg mb 176 True [.int x tx] (fun _ => .bool true) := by
  k_with_none
  k_with "ktr_rel" => (( (case k1 => k_asm); (case k2 => k_asm); (case k3 => k_asm); (case k4 => k_asm); (case k5 => k_asm); (case kK => first | exact rfl | assumption); (case kp => first | trivial | with_reducible assumption | ((repeat' refine And.intro ?_ ?_) <;> first | with_reducible assumption | exact And.left (by with_reducible assumption) | exact And.right (by with_reducible assumption) | decide | omega) | omega | fail "premise"); (case kd => ktr_room); (case ku => ktr_units); k_whole; intro _ _ _ _ _; (try dsimp only); (try k_fold)))
  k_with "ktr_room" => (first | (refine' roomL ?ra ?rb; (case ra => with_reducible assumption); (case rb => exact Nat.le_of_ble_eq_true rfl)) | fail "room")
  k_with "ktr_units" => (first | (refine' roomL ?ra ?rb; (case ra => with_reducible assumption); (case rb => exact Nat.le_of_ble_eq_true rfl)) | fail "room")
  k_with "k_units" => (first | exact Nat.le_of_ble_eq_true rfl | ktr_units)
  k_with "ite" => ((k_here; k_openite; first | (refine ite_pos (by (simp only [decide_eq_true_eq, beq_iff_eq, bne_iff_ne, ne_eq]; omega)) ?_; walk_say "MINE") | (refine ite_neg (by (simp only [decide_eq_true_eq, beq_iff_eq, bne_iff_ne, ne_eq]; omega)) ?_; walk_say "MINE")))
  k_with "call builtin:abs" => ((k_here; (first | refine abs_nn (by omega) ?_ | refine abs_ng (by omega) ?_); intro _ _))
  k_with "call ref" => ((k_here; k_dflt (refine' Says.use (fits_says _ _ _) ?k1 ?k2 ?k3 ?k4 ?k5 ?kK ?kp ?kd ?ku ?_; ktr_rel)))
  unfold Says CbRet
  k_fill
  intros
  rename_i hpre _ _ hret
  refine wpAny_call ?_
  k_dflt cell_enter
  k_steps
  all_goals (cb_end hret)
theorem tdiv_nn {x n : Int} (h1 : 0 < n) (h : ¬ x < 0) : Int.tdiv x n = Int.fdiv x n := by
  rw [Int.fdiv_eq_tdiv_of_nonneg (by omega) (by omega)]
theorem tdiv_ng {x n : Int} (h1 : 0 < n) (h : x < 0) : Int.tdiv x n = 0 - Int.fdiv (-x) n := by
  have e : Int.fdiv (-x) n = Int.tdiv (-x) n := by rw [Int.fdiv_eq_tdiv_of_nonneg (by omega) (by omega)]
  rw [e, Int.neg_tdiv]; omega
theorem cut_quotient_says {w p loose mean mg mb} (x n : Int) (tx tn : Tok) :
    Says 1 w p loose mean mg mb 197 (0 < n ∧ n < 8192 ∧ -2147483648 ≤ x ∧ x < 2147483648) [.int x tx, .int n tn] (fun t => .int (Int.tdiv x n) t) := by
  k_with_none
  k_with "ktr_rel" => (( (case k1 => k_asm); (case k2 => k_asm); (case k3 => k_asm); (case k4 => k_asm); (case k5 => k_asm); (case kK => first | exact rfl | assumption); (case kp => first | trivial | with_reducible assumption | ((repeat' refine And.intro ?_ ?_) <;> first | with_reducible assumption | exact And.left (by with_reducible assumption) | exact And.right (by with_reducible assumption) | decide | omega) | omega | fail "premise"); (case kd => ktr_room); (case ku => ktr_units); k_whole; intro _ _ _ _ _; (try dsimp only); (try k_fold)))
  k_with "ktr_room" => (first | (refine' roomL ?ra ?rb; (case ra => with_reducible assumption); (case rb => exact Nat.le_of_ble_eq_true rfl)) | fail "room")
  k_with "ktr_units" => (first | (refine' roomL ?ra ?rb; (case ra => with_reducible assumption); (case rb => exact Nat.le_of_ble_eq_true rfl)) | fail "room")
  k_with "k_units" => (first | exact Nat.le_of_ble_eq_true rfl | ktr_units)
  k_with "ite" => ((k_here; k_openite; first | (refine ite_pos (by (simp only [decide_eq_true_eq, beq_iff_eq, bne_iff_ne, ne_eq]; omega)) ?_; walk_say "MINE") | (refine ite_neg (by (simp only [decide_eq_true_eq, beq_iff_eq, bne_iff_ne, ne_eq]; omega)) ?_; walk_say "MINE")))
  k_with "call builtin:abs" => ((k_here; (first | refine abs_nn (by omega) ?_ | refine abs_ng (by omega) ?_); intro _ _))
  k_with "call ref" => ((k_here; k_dflt (refine' Says.use (fits_says _ _ _) ?k1 ?k2 ?k3 ?k4 ?k5 ?kK ?kp ?kd ?ku ?_; ktr_rel)))
  unfold Says CbRet
  k_fill
  intros
  rename_i hpre _ _ hret
  obtain ⟨h1, h2, h3, h4⟩ := hpre
  refine wpAny_call ?_
  by_cases hx : x < 0
  · rw [tdiv_ng h1 hx] at hret
    k_dflt cell_enter
    k_steps
    all_goals (cb_end hret)
  · rw [tdiv_nn h1 hx] at hret
    k_dflt cell_enter
    k_steps
    all_goals (cb_end hret)
theorem cut_rest_says {w p loose mean mg mb} (x n : Int) (tx tn : Tok) :
    Says 2 w p loose mean mg mb 204 (0 < n ∧ n < 8192 ∧ -2147483648 ≤ x ∧ x < 2147483648) [.int x tx, .int n tn] (fun t => .int (Int.tmod x n) t) := by
  k_with_none
  k_with "ktr_rel" => (( (case k1 => k_asm); (case k2 => k_asm); (case k3 => k_asm); (case k4 => k_asm); (case k5 => k_asm); (case kK => first | exact rfl | assumption); (case kp => first | trivial | with_reducible assumption | ((repeat' refine And.intro ?_ ?_) <;> first | with_reducible assumption | exact And.left (by with_reducible assumption) | exact And.right (by with_reducible assumption) | decide | omega) | omega | fail "premise"); (case kd => ktr_room); (case ku => ktr_units); k_whole; intro _ _ _ _ _; (try dsimp only); (try k_fold)))
  k_with "ktr_room" => (first | (refine' roomL ?ra ?rb; (case ra => with_reducible assumption); (case rb => exact Nat.le_of_ble_eq_true rfl)) | fail "room")
  k_with "ktr_units" => (first | (refine' roomL ?ra ?rb; (case ra => with_reducible assumption); (case rb => exact Nat.le_of_ble_eq_true rfl)) | fail "room")
  k_with "k_units" => (first | exact Nat.le_of_ble_eq_true rfl | ktr_units)
  k_with "ite" => ((k_here; k_openite; first | (refine ite_pos (by (simp only [decide_eq_true_eq, beq_iff_eq, bne_iff_ne, ne_eq]; omega)) ?_; walk_say "MINE") | (refine ite_neg (by (simp only [decide_eq_true_eq, beq_iff_eq, bne_iff_ne, ne_eq]; omega)) ?_; walk_say "MINE")))
  k_with "call builtin:abs" => ((k_here; (first | refine abs_nn (by omega) ?_ | refine abs_ng (by omega) ?_); intro _ _))
  k_with "call ref" => ((k_here; k_dflt (refine' Says.use (fits_says _ _ _) ?k1 ?k2 ?k3 ?k4 ?k5 ?kK ?kp ?kd ?ku ?_; ktr_rel)))
  k_with "call ref" => ((k_here; k_dflt (refine' Says.use (cut_quotient_says _ _ _ _) ?k1 ?k2 ?k3 ?k4 ?k5 ?kK ?kp ?kd ?ku ?_; ktr_rel)))
  unfold Says CbRet
  k_fill
  intros
  rename_i hpre _ _ hret
  obtain ⟨h1, h2, h3, h4⟩ := hpre
  rw [Int.tmod_def] at hret
  refine wpAny_call ?_
  k_dflt cell_enter
  k_steps
  all_goals (cb_end hret)
end
section
theorem tmod_lt {x n : Int} (h : 0 < n) : Int.tmod x n < n := Int.tmod_lt_of_pos x h
theorem tmod_nn {x : Int} (n : Int) (h : 0 ≤ x) : 0 ≤ Int.tmod x n := Int.tmod_nonneg n h
theorem tmod_gt {x n : Int} (h : 0 < n) : -n < Int.tmod x n := by
  by_cases hx : 0 ≤ x
  · have := tmod_nn n hx; omega
  · have h2 := tmod_lt (x := -x) h
    rw [Int.neg_tmod] at h2; omega
theorem reck_add {w p loose mean mg mb} (x y : Int) (tp ta tb tc td : Tok) :
    Says 4 w p loose mean mg mb 232 (-2147483648 ≤ x + y ∧ x + y < 2147483648) [.str (Str.ofString "+") tp, .int x ta, .int y tb, .int 32 tc, .int 9 td] (fun t => .int (x + y) t) := by
  k_with_none
  k_with "ktr_rel" => (( (case k1 => k_asm); (case k2 => k_asm); (case k3 => k_asm); (case k4 => k_asm); (case k5 => k_asm); (case kK => first | exact rfl | assumption); (case kp => first | trivial | with_reducible assumption | ((repeat' refine And.intro ?_ ?_) <;> first | with_reducible assumption | exact And.left (by with_reducible assumption) | exact And.right (by with_reducible assumption) | decide | omega) | omega | fail "premise"); (case kd => ktr_room); (case ku => ktr_units); k_whole; intro _ _ _ _ _; (try dsimp only); (try k_fold)))
  k_with "ktr_room" => (first | (refine' roomL ?ra ?rb; (case ra => with_reducible assumption); (case rb => exact Nat.le_of_ble_eq_true rfl)) | fail "room")
  k_with "ktr_units" => (first | (refine' roomL ?ra ?rb; (case ra => with_reducible assumption); (case rb => exact Nat.le_of_ble_eq_true rfl)) | fail "room")
  k_with "k_units" => (first | exact Nat.le_of_ble_eq_true rfl | ktr_units)
  k_with "ite" => ((k_here; k_openite; first | (refine ite_pos (by (simp only [decide_eq_true_eq, beq_iff_eq, bne_iff_ne, ne_eq]; omega)) ?_; walk_say "MINE") | (refine ite_neg (by (simp only [decide_eq_true_eq, beq_iff_eq, bne_iff_ne, ne_eq]; omega)) ?_; walk_say "MINE")))
  k_with "call builtin:abs" => ((k_here; (first | refine abs_nn (by omega) ?_ | refine abs_ng (by omega) ?_); intro _ _))
  k_with "call ref" => ((k_here; k_dflt (refine' Says.use (fits_says _ _ _) ?k1 ?k2 ?k3 ?k4 ?k5 ?kK ?kp ?kd ?ku ?_; ktr_rel)))
  k_with "call ref" => ((k_here; k_dflt (refine' Says.use (settled_says _ _ _ _) ?k1 ?k2 ?k3 ?k4 ?k5 ?kK ?kp ?kd ?ku ?_; ktr_rel)))
  k_with "call ref" => ((k_here; k_dflt (refine' Says.use (whole_of_says _ _ _) ?k1 ?k2 ?k3 ?k4 ?k5 ?kK ?kp ?kd ?ku ?_; ktr_rel)))
  k_with "call ref" => ((k_here; k_dflt (refine' Says.use (is_whole_says _ _) ?k1 ?k2 ?k3 ?k4 ?k5 ?kK ?kp ?kd ?ku ?_; ktr_rel)))
  k_with "call ref" => ((k_here; k_dflt (refine' Says.use (cut_rest_says _ _ _ _) ?k1 ?k2 ?k3 ?k4 ?k5 ?kK ?kp ?kd ?ku ?_; ktr_rel)))
  unfold Says CbRet
  k_fill
  intros
  rename_i hpre _ _ hret
  refine wpAny_call ?_
  k_dflt cell_enter
  k_steps
  all_goals (cb_end hret)
theorem reck_sub {w p loose mean mg mb} (x y : Int) (tp ta tb tc td : Tok) :
    Says 4 w p loose mean mg mb 232 (-2147483648 ≤ x - y ∧ x - y < 2147483648) [.str (Str.ofString "-") tp, .int x ta, .int y tb, .int 32 tc, .int 9 td] (fun t => .int (x - y) t) := by
  k_with_none
  k_with "ktr_rel" => (( (case k1 => k_asm); (case k2 => k_asm); (case k3 => k_asm); (case k4 => k_asm); (case k5 => k_asm); (case kK => first | exact rfl | assumption); (case kp => first | trivial | with_reducible assumption | ((repeat' refine And.intro ?_ ?_) <;> first | with_reducible assumption | exact And.left (by with_reducible assumption) | exact And.right (by with_reducible assumption) | decide | omega) | omega | fail "premise"); (case kd => ktr_room); (case ku => ktr_units); k_whole; intro _ _ _ _ _; (try dsimp only); (try k_fold)))
  k_with "ktr_room" => (first | (refine' roomL ?ra ?rb; (case ra => with_reducible assumption); (case rb => exact Nat.le_of_ble_eq_true rfl)) | fail "room")
  k_with "ktr_units" => (first | (refine' roomL ?ra ?rb; (case ra => with_reducible assumption); (case rb => exact Nat.le_of_ble_eq_true rfl)) | fail "room")
  k_with "k_units" => (first | exact Nat.le_of_ble_eq_true rfl | ktr_units)
  k_with "ite" => ((k_here; k_openite; first | (refine ite_pos (by (simp only [decide_eq_true_eq, beq_iff_eq, bne_iff_ne, ne_eq]; omega)) ?_; walk_say "MINE") | (refine ite_neg (by (simp only [decide_eq_true_eq, beq_iff_eq, bne_iff_ne, ne_eq]; omega)) ?_; walk_say "MINE")))
  k_with "call builtin:abs" => ((k_here; (first | refine abs_nn (by omega) ?_ | refine abs_ng (by omega) ?_); intro _ _))
  k_with "call ref" => ((k_here; k_dflt (refine' Says.use (fits_says _ _ _) ?k1 ?k2 ?k3 ?k4 ?k5 ?kK ?kp ?kd ?ku ?_; ktr_rel)))
  k_with "call ref" => ((k_here; k_dflt (refine' Says.use (settled_says _ _ _ _) ?k1 ?k2 ?k3 ?k4 ?k5 ?kK ?kp ?kd ?ku ?_; ktr_rel)))
  k_with "call ref" => ((k_here; k_dflt (refine' Says.use (whole_of_says _ _ _) ?k1 ?k2 ?k3 ?k4 ?k5 ?kK ?kp ?kd ?ku ?_; ktr_rel)))
  k_with "call ref" => ((k_here; k_dflt (refine' Says.use (is_whole_says _ _) ?k1 ?k2 ?k3 ?k4 ?k5 ?kK ?kp ?kd ?ku ?_; ktr_rel)))
  k_with "call ref" => ((k_here; k_dflt (refine' Says.use (cut_rest_says _ _ _ _) ?k1 ?k2 ?k3 ?k4 ?k5 ?kK ?kp ?kd ?ku ?_; ktr_rel)))
  unfold Says CbRet
  k_fill
  intros
  rename_i hpre _ _ hret
  refine wpAny_call ?_
  k_dflt cell_enter
  k_steps
  all_goals (cb_end hret)
theorem reck_mul {w p loose mean mg mb} (x y : Int) (tp ta tb tc td : Tok) :
    Says 4 w p loose mean mg mb 232 (-2147483648 ≤ x ∧ x < 2147483648 ∧ -2147483648 ≤ y ∧ y < 2147483648 ∧ -2147483648 ≤ x * y ∧ x * y < 2147483648) [.str (Str.ofString "*") tp, .int x ta, .int y tb, .int 32 tc, .int 9 td] (fun t => .int (x * y) t) := by
  k_with_none
  k_with "ktr_rel" => (( (case k1 => k_asm); (case k2 => k_asm); (case k3 => k_asm); (case k4 => k_asm); (case k5 => k_asm); (case kK => first | exact rfl | assumption); (case kp => first | trivial | with_reducible assumption | ((repeat' refine And.intro ?_ ?_) <;> first | with_reducible assumption | exact And.left (by with_reducible assumption) | exact And.right (by with_reducible assumption) | decide | omega) | omega | fail "premise"); (case kd => ktr_room); (case ku => ktr_units); k_whole; intro _ _ _ _ _; (try dsimp only); (try k_fold)))
  k_with "ktr_room" => (first | (refine' roomL ?ra ?rb; (case ra => with_reducible assumption); (case rb => exact Nat.le_of_ble_eq_true rfl)) | fail "room")
  k_with "ktr_units" => (first | (refine' roomL ?ra ?rb; (case ra => with_reducible assumption); (case rb => exact Nat.le_of_ble_eq_true rfl)) | fail "room")
  k_with "k_units" => (first | exact Nat.le_of_ble_eq_true rfl | ktr_units)
  k_with "ite" => ((k_here; k_openite; first | (refine ite_pos (by (simp only [decide_eq_true_eq, beq_iff_eq, bne_iff_ne, ne_eq]; omega)) ?_; walk_say "MINE") | (refine ite_neg (by (simp only [decide_eq_true_eq, beq_iff_eq, bne_iff_ne, ne_eq]; omega)) ?_; walk_say "MINE")))
  k_with "call builtin:abs" => ((k_here; (first | refine abs_nn (by omega) ?_ | refine abs_ng (by omega) ?_); intro _ _))
  k_with "call ref" => ((k_here; k_dflt (refine' Says.use (fits_says _ _ _) ?k1 ?k2 ?k3 ?k4 ?k5 ?kK ?kp ?kd ?ku ?_; ktr_rel)))
  k_with "call ref" => ((k_here; k_dflt (refine' Says.use (settled_says _ _ _ _) ?k1 ?k2 ?k3 ?k4 ?k5 ?kK ?kp ?kd ?ku ?_; ktr_rel)))
  k_with "call ref" => ((k_here; k_dflt (refine' Says.use (whole_of_says _ _ _) ?k1 ?k2 ?k3 ?k4 ?k5 ?kK ?kp ?kd ?ku ?_; ktr_rel)))
  k_with "call ref" => ((k_here; k_dflt (refine' Says.use (is_whole_says _ _) ?k1 ?k2 ?k3 ?k4 ?k5 ?kK ?kp ?kd ?ku ?_; ktr_rel)))
  k_with "call ref" => ((k_here; k_dflt (refine' Says.use (cut_rest_says _ _ _ _) ?k1 ?k2 ?k3 ?k4 ?k5 ?kK ?kp ?kd ?ku ?_; ktr_rel)))
  unfold Says CbRet
  k_fill
  intros
  rename_i hpre _ _ hret
  obtain ⟨r1, r2, r3, r4, r5, r6⟩ := hpre
  refine wpAny_call ?_
  k_dflt cell_enter
  k_steps
  all_goals (cb_end hret)
theorem reck_mod {w p loose mean mg mb} (x y : Int) (tp ta tb tc td : Tok) :
    Says 4 w p loose mean mg mb 232 (0 < y ∧ y < 8192 ∧ -2147483648 ≤ x ∧ x < 2147483648) [.str (Str.ofString "MOD") tp, .int x ta, .int y tb, .int 32 tc, .int 9 td] (fun t => .int (Int.tmod x y) t) := by
  k_with_none
  k_with "ktr_rel" => (( (case k1 => k_asm); (case k2 => k_asm); (case k3 => k_asm); (case k4 => k_asm); (case k5 => k_asm); (case kK => first | exact rfl | assumption); (case kp => first | trivial | with_reducible assumption | ((repeat' refine And.intro ?_ ?_) <;> first | with_reducible assumption | exact And.left (by with_reducible assumption) | exact And.right (by with_reducible assumption) | decide | omega) | omega | fail "premise"); (case kd => ktr_room); (case ku => ktr_units); k_whole; intro _ _ _ _ _; (try dsimp only); (try k_fold)))
  k_with "ktr_room" => (first | (refine' roomL ?ra ?rb; (case ra => with_reducible assumption); (case rb => exact Nat.le_of_ble_eq_true rfl)) | fail "room")
  k_with "ktr_units" => (first | (refine' roomL ?ra ?rb; (case ra => with_reducible assumption); (case rb => exact Nat.le_of_ble_eq_true rfl)) | fail "room")
  k_with "k_units" => (first | exact Nat.le_of_ble_eq_true rfl | ktr_units)
  k_with "ite" => ((k_here; k_openite; first | (refine ite_pos (by (simp only [decide_eq_true_eq, beq_iff_eq, bne_iff_ne, ne_eq]; omega)) ?_; walk_say "MINE") | (refine ite_neg (by (simp only [decide_eq_true_eq, beq_iff_eq, bne_iff_ne, ne_eq]; omega)) ?_; walk_say "MINE")))
  k_with "call builtin:abs" => ((k_here; (first | refine abs_nn (by omega) ?_ | refine abs_ng (by omega) ?_); intro _ _))
  k_with "call ref" => ((k_here; k_dflt (refine' Says.use (fits_says _ _ _) ?k1 ?k2 ?k3 ?k4 ?k5 ?kK ?kp ?kd ?ku ?_; ktr_rel)))
  k_with "call ref" => ((k_here; k_dflt (refine' Says.use (settled_says _ _ _ _) ?k1 ?k2 ?k3 ?k4 ?k5 ?kK ?kp ?kd ?ku ?_; ktr_rel)))
  k_with "call ref" => ((k_here; k_dflt (refine' Says.use (whole_of_says _ _ _) ?k1 ?k2 ?k3 ?k4 ?k5 ?kK ?kp ?kd ?ku ?_; ktr_rel)))
  k_with "call ref" => ((k_here; k_dflt (refine' Says.use (is_whole_says _ _) ?k1 ?k2 ?k3 ?k4 ?k5 ?kK ?kp ?kd ?ku ?_; ktr_rel)))
  k_with "call ref" => ((k_here; k_dflt (refine' Says.use (cut_rest_says _ _ _ _) ?k1 ?k2 ?k3 ?k4 ?k5 ?kK ?kp ?kd ?ku ?_; ktr_rel)))
  unfold Says CbRet
  k_fill
  intros
  rename_i hpre _ _ hret
  obtain ⟨h1, h2, h3, h4⟩ := hpre
  have h5 := tmod_lt (x := x) h1
  have h6 := tmod_gt (x := x) h1
  refine wpAny_call ?_
  k_dflt cell_enter
  k_steps
  all_goals (cb_end hret)
end
section
theorem Says.useZ {n : Nat} {w : World} {p : Program} {loose : List Str} {mean : ExcName → Option Value} {mg mb : Str → Option Value} {f : Addr} {pre : Prop} {vs : List Value} {z₀ : Int} {P : Int → Prop} (C : Says n w p loose mean mg mb f pre vs (fun t => .int z₀ t)) (hP : pre → P z₀)
    {dp un : Nat} {gd : Option (List Code)} {cn : Str} {cs : Scope} {a : Addr} {ccd : Value} {cl : List (Str × Addr)} {outer : List Env} {A₀ : Around} {base h₀ : Heap} {L : Addr} {m : Str → Option Value} {news : List (Addr × Obj)} {s : Shared} {Q E : Value → Shared → Prop}
    (B : Below A₀ base outer h₀) (F : Fr h₀ L s.heap m) (X : Frag.In (hd.heap_39 w.params) h₀) (N : News h₀ L s.heap news) (T : Top p loose mean mg mb h₀) (hk : cs.kind = .function)
    (hp : pre) (hd : dp + n < recursionLimit) (hu : un + 64 * n < cLine) (ret : ∀ (z : Int) (t : Tok) (h' : Heap) (tk' : Nat), P z → Fr h₀ L h' m → News h₀ L h' news → Q (.int z t) { s with heap := h', toks := tk' }) :
      wpAny (model PySem.Challenge.rw_xm0052_01.row.prog w) (ktrTop dp un gd cn cs L a ccd cl outer) (call (.ref f) vs) Q E s :=
  C _ _ _ _ _ _ _ _ _ _ _ _ _ _ _ _ _ _ B F X N T hk hp hd hu fun t h' tk' => ret z₀ t h' tk' (hP hp)
theorem mul_bd {x y : Int} (hx : 0 ≤ x) (hx' : x < 8192) (hy : 0 ≤ y) (hy' : y < 8192) : 0 ≤ x * y ∧ x * y ≤ 67092481 := by
  refine ⟨Int.mul_nonneg hx hy, ?_⟩
  have h := Int.mul_le_mul (show x ≤ 8191 by omega) (show y ≤ 8191 by omega) hy (by omega)
  omega
theorem rest_add {w p loose mean mg mb} (x y n : Int) (tp ta tb tc : Tok) :
    Says 5 w p loose mean mg mb 246 (0 < n ∧ n < 8192 ∧ 0 ≤ x ∧ x < n ∧ 0 ≤ y ∧ y < n) [.str (Str.ofString "+") tp, .int x ta, .int y tb, .int n tc] (fun t => .int (Int.tmod (x + y) n) t) := by
  k_with_none
  k_with "ktr_rel" => (( (case k1 => k_asm); (case k2 => k_asm); (case k3 => k_asm); (case k4 => k_asm); (case k5 => k_asm); (case kK => first | exact rfl | assumption); (case kp => first | trivial | with_reducible assumption | ((repeat' refine And.intro ?_ ?_) <;> first | with_reducible assumption | exact And.left (by with_reducible assumption) | exact And.right (by with_reducible assumption) | decide | omega) | omega | fail "premise"); (case kd => ktr_room); (case ku => ktr_units); k_whole; intro _ _ _ _ _; (try dsimp only); (try k_fold)))
  k_with "ktr_room" => (first | (refine' roomL ?ra ?rb; (case ra => with_reducible assumption); (case rb => exact Nat.le_of_ble_eq_true rfl)) | fail "room")
  k_with "ktr_units" => (first | (refine' roomL ?ra ?rb; (case ra => with_reducible assumption); (case rb => exact Nat.le_of_ble_eq_true rfl)) | fail "room")
  k_with "k_units" => (first | exact Nat.le_of_ble_eq_true rfl | ktr_units)
  k_with "ite" => ((k_here; k_openite; first | (refine ite_pos (by (simp only [decide_eq_true_eq, beq_iff_eq, bne_iff_ne, ne_eq]; omega)) ?_; walk_say "MINE") | (refine ite_neg (by (simp only [decide_eq_true_eq, beq_iff_eq, bne_iff_ne, ne_eq]; omega)) ?_; walk_say "MINE")))
  k_with "call builtin:abs" => ((k_here; (first | refine abs_nn (by omega) ?_ | refine abs_ng (by omega) ?_); intro _ _))
  k_with "call ref" => ((k_here; k_dflt (refine' Says.use (reck_add _ _ _ _ _ _ _) ?k1 ?k2 ?k3 ?k4 ?k5 ?kK ?kp ?kd ?ku ?_; ktr_rel)))
  k_with "call ref" => ((k_here; k_dflt (refine' Says.use (reck_sub _ _ _ _ _ _ _) ?k1 ?k2 ?k3 ?k4 ?k5 ?kK ?kp ?kd ?ku ?_; ktr_rel)))
  k_with "call ref" => ((k_here; k_dflt (refine' Says.use (reck_mul _ _ _ _ _ _ _) ?k1 ?k2 ?k3 ?k4 ?k5 ?kK ?kp ?kd ?ku ?_; ktr_rel)))
  k_with "call ref" => ((k_here; k_dflt (refine' Says.use (reck_mod _ _ _ _ _ _ _) ?k1 ?k2 ?k3 ?k4 ?k5 ?kK ?kp ?kd ?ku ?_; ktr_rel)))
  unfold Says CbRet
  k_fill
  intros
  rename_i hpre _ _ hret
  obtain ⟨r1, r2, r3, r4, r5, r6⟩ := hpre
  have r7 := fitA r2 r3 r4 r5 r6
  refine wpAny_call ?_
  k_dflt cell_enter
  k_steps
  all_goals (cb_end hret)
theorem rest_mul {w p loose mean mg mb} (x y n : Int) (tp ta tb tc : Tok) :
    Says 5 w p loose mean mg mb 246 (0 < n ∧ n < 8192 ∧ 0 ≤ x ∧ x < n ∧ 0 ≤ y ∧ y < n) [.str (Str.ofString "*") tp, .int x ta, .int y tb, .int n tc] (fun t => .int (Int.tmod (x * y) n) t) := by
  k_with_none
  k_with "ktr_rel" => (( (case k1 => k_asm); (case k2 => k_asm); (case k3 => k_asm); (case k4 => k_asm); (case k5 => k_asm); (case kK => first | exact rfl | assumption); (case kp => first | trivial | with_reducible assumption | ((repeat' refine And.intro ?_ ?_) <;> first | with_reducible assumption | exact And.left (by with_reducible assumption) | exact And.right (by with_reducible assumption) | decide | omega) | omega | fail "premise"); (case kd => ktr_room); (case ku => ktr_units); k_whole; intro _ _ _ _ _; (try dsimp only); (try k_fold)))
  k_with "ktr_room" => (first | (refine' roomL ?ra ?rb; (case ra => with_reducible assumption); (case rb => exact Nat.le_of_ble_eq_true rfl)) | fail "room")
  k_with "ktr_units" => (first | (refine' roomL ?ra ?rb; (case ra => with_reducible assumption); (case rb => exact Nat.le_of_ble_eq_true rfl)) | fail "room")
  k_with "k_units" => (first | exact Nat.le_of_ble_eq_true rfl | ktr_units)
  k_with "ite" => ((k_here; k_openite; first | (refine ite_pos (by (simp only [decide_eq_true_eq, beq_iff_eq, bne_iff_ne, ne_eq]; omega)) ?_; walk_say "MINE") | (refine ite_neg (by (simp only [decide_eq_true_eq, beq_iff_eq, bne_iff_ne, ne_eq]; omega)) ?_; walk_say "MINE")))
  k_with "call builtin:abs" => ((k_here; (first | refine abs_nn (by omega) ?_ | refine abs_ng (by omega) ?_); intro _ _))
  k_with "call ref" => ((k_here; k_dflt (refine' Says.use (reck_add _ _ _ _ _ _ _) ?k1 ?k2 ?k3 ?k4 ?k5 ?kK ?kp ?kd ?ku ?_; ktr_rel)))
  k_with "call ref" => ((k_here; k_dflt (refine' Says.use (reck_sub _ _ _ _ _ _ _) ?k1 ?k2 ?k3 ?k4 ?k5 ?kK ?kp ?kd ?ku ?_; ktr_rel)))
  k_with "call ref" => ((k_here; k_dflt (refine' Says.use (reck_mul _ _ _ _ _ _ _) ?k1 ?k2 ?k3 ?k4 ?k5 ?kK ?kp ?kd ?ku ?_; ktr_rel)))
  k_with "call ref" => ((k_here; k_dflt (refine' Says.use (reck_mod _ _ _ _ _ _ _) ?k1 ?k2 ?k3 ?k4 ?k5 ?kK ?kp ?kd ?ku ?_; ktr_rel)))
  unfold Says CbRet
  k_fill
  intros
  rename_i hpre _ _ hret
  obtain ⟨r1, r2, r3, r4, r5, r6⟩ := hpre
  have r7 := fitM (mul_bd (x := x) (y := y) r3 (Int.lt_trans r4 r2) r5 (Int.lt_trans r6 r2))
  have r8 := fitI r3 (Int.lt_trans r4 r2)
  have r9 := fitI r5 (Int.lt_trans r6 r2)
  refine wpAny_call ?_
  k_dflt cell_enter
  k_steps
  all_goals (cb_end hret)
theorem rest_sub {w p loose mean mg mb} (x y n : Int) (tp ta tb tc : Tok) :
    Says 5 w p loose mean mg mb 246 (0 < n ∧ n < 8192 ∧ 0 ≤ x ∧ x < 70000000 ∧ 0 ≤ y ∧ y < 8192) [.str (Str.ofString "-") tp, .int x ta, .int y tb, .int n tc] (fun t => .int (Int.tmod (x - y) n) t) := by
  k_with_none
  k_with "ktr_rel" => (( (case k1 => k_asm); (case k2 => k_asm); (case k3 => k_asm); (case k4 => k_asm); (case k5 => k_asm); (case kK => first | exact rfl | assumption); (case kp => first | trivial | with_reducible assumption | ((repeat' refine And.intro ?_ ?_) <;> first | with_reducible assumption | exact And.left (by with_reducible assumption) | exact And.right (by with_reducible assumption) | decide | omega) | omega | fail "premise"); (case kd => ktr_room); (case ku => ktr_units); k_whole; intro _ _ _ _ _; (try dsimp only); (try k_fold)))
  k_with "ktr_room" => (first | (refine' roomL ?ra ?rb; (case ra => with_reducible assumption); (case rb => exact Nat.le_of_ble_eq_true rfl)) | fail "room")
  k_with "ktr_units" => (first | (refine' roomL ?ra ?rb; (case ra => with_reducible assumption); (case rb => exact Nat.le_of_ble_eq_true rfl)) | fail "room")
  k_with "k_units" => (first | exact Nat.le_of_ble_eq_true rfl | ktr_units)
  k_with "ite" => ((k_here; k_openite; first | (refine ite_pos (by (simp only [decide_eq_true_eq, beq_iff_eq, bne_iff_ne, ne_eq]; omega)) ?_; walk_say "MINE") | (refine ite_neg (by (simp only [decide_eq_true_eq, beq_iff_eq, bne_iff_ne, ne_eq]; omega)) ?_; walk_say "MINE")))
  k_with "call builtin:abs" => ((k_here; (first | refine abs_nn (by omega) ?_ | refine abs_ng (by omega) ?_); intro _ _))
  k_with "call ref" => ((k_here; k_dflt (refine' Says.use (reck_add _ _ _ _ _ _ _) ?k1 ?k2 ?k3 ?k4 ?k5 ?kK ?kp ?kd ?ku ?_; ktr_rel)))
  k_with "call ref" => ((k_here; k_dflt (refine' Says.use (reck_sub _ _ _ _ _ _ _) ?k1 ?k2 ?k3 ?k4 ?k5 ?kK ?kp ?kd ?ku ?_; ktr_rel)))
  k_with "call ref" => ((k_here; k_dflt (refine' Says.use (reck_mul _ _ _ _ _ _ _) ?k1 ?k2 ?k3 ?k4 ?k5 ?kK ?kp ?kd ?ku ?_; ktr_rel)))
  k_with "call ref" => ((k_here; k_dflt (refine' Says.use (reck_mod _ _ _ _ _ _ _) ?k1 ?k2 ?k3 ?k4 ?k5 ?kK ?kp ?kd ?ku ?_; ktr_rel)))
  unfold Says CbRet
  k_fill
  intros
  rename_i hpre _ _ hret
  obtain ⟨r1, r2, r3, r4, r5, r6⟩ := hpre
  have r7 := fitS r3 r4 r5 r6
  refine wpAny_call ?_
  k_dflt cell_enter
  k_steps
  all_goals (cb_end hret)
end
section
open PySem.Calls PySem.Spec
/-- a goal laid aside -/
def Hold (P : Prop) : Prop := P
theorem Hold.of {P : Prop} (h : Hold P) : P := h
theorem Hold.mk {P : Prop} (h : P) : Hold P := h
/-- what is not of the ledger stands -/
def Kept (h : Heap) (as : List Addr) (h' : Heap) : Prop := ∀ b o, h.get? b = some o → b ∉ as → h'.get? b = some o
/-- the ledger's part that a call is shown: the rest of the ledger stands behind it -/
theorem news_back {h₀ h h' : Heap} {L : Addr} {news small : List (Addr × Obj)} (N : News h₀ L h news) (sub : ∀ p ∈ small, p ∈ news) (k : Kept h (small.map (·.1)) h') (N' : News h₀ L h' small) : News h₀ L h' news := by
  intro p hp
  refine ⟨?_, (N p hp).2⟩
  by_cases hm : p.1 ∈ small.map (·.1)
  · obtain ⟨q, hq, e⟩ := List.mem_map.mp hm
    have h1 := (N p hp).1
    have h2 := (N q (sub q hq)).1
    rw [e, h1] at h2
    have e2 : p = q := Prod.ext e.symm (Option.some.inj h2)
    rw [e2]
    exact (N' q hq).1
  · exact k _ _ (N p hp).1 hm
/-- an address that the ledger has not -/
def Fresh (l : List (Addr × Obj)) (b : Addr) : Prop := ∀ q ∈ l, @Ne Nat q.1 b
theorem Fresh.ne {l : List (Addr × Obj)} {a b : Addr} {o : Obj} (h : Fresh l b) (hm : (a, o) ∈ l) : @Ne Nat a b := h _ hm
theorem Fresh.ne' {l : List (Addr × Obj)} {a b : Addr} {o : Obj} (h : Fresh l b) (hm : (a, o) ∈ l) : @Ne Nat b a := Ne.symm (h _ hm)
theorem fresh_of {h₀ h g : Heap} {L b : Addr} {as : List Addr} {news : List (Addr × Obj)} (N : News h₀ L h news) (kp : Kept h as g) (hb : g.get? b = none) (hn : b ∉ as) : Fresh news b := fun q hq e => by
  have h1 := (N q hq).1
  have h2 := kp q.1 q.2 h1 (fun m => hn ((show q.1 = b from e) ▸ m))
  rw [show q.1 = b from e, hb] at h2
  cases h2
section
variable {prog : Program} {w : World} {A A₀ : Around} {s : Shared} {K : Frag} {L : Addr} {h₀ base : Heap} {m mg mb : Str → Option Value} {small : List (Addr × Obj)} {p : Program} {loose : List Str} {mean : ExcName → Option Value}
/-- the post of a call that keeps what it was not shown -/
def PostF (h : Heap) (as : List Addr) (R : Result → Shared → Prop) (r : Result) (s' : Shared) : Prop := Hold (Kept h as s'.heap → R r s')
theorem leave_kept {h g : Heap} {as : List Addr} {R : Result → Shared → Prop} (hg : Kept h as g) {v : Value} {s' : Shared} (hl : LeaveK h₀ L m g (PostF h as R) v s') : LeaveK h₀ L m g R v s' := by
  obtain ⟨L', m', news', F', N', k⟩ := hl
  exact ⟨L', m', news', F', N', fun a b => k a b fun b' o e hb => F'.keep b' o (hg b' o e hb)⟩
theorem code_F {env : Env} {outer : List Env} {R : Result → Shared → Prop} {name qual : Str} {params : Arguments} {body : List Stmt} {scope : Scope} {dV kV doc pm cdv ct oc : Value} {an od : Option Addr} {osl : Array (Option Value)} {f : Addr} {args : Args} {binds : List (Str × Value)}
    (B : Below A₀ base outer h₀) (F : Fr h₀ L s.heap m) (X₀ : K.In h₀) (N : News h₀ L s.heap small) (T : Top p loose mean mg mb h₀) (hA : A.frames = some (env :: outer)) (hf : env.frame = some L) (hke : env.scope.kind = .function)
    (ho : K.lookup f = some ⟨oc, od, .func (fnOf name qual params body scope dV kV doc pm an cdv ct), osl⟩) (hcd : codeIn K cdv qual = true) (hroom : A.depth < recursionLimit)
    (hbind : BindsTo s (fnOf name qual params body scope dV kV doc pm an cdv ct) args binds) (hloc : ∀ y ∈ binds, scope.names.lookup y.1 = some .local)
    (h : ∀ g L' h₁, Fr h₀ L g m → Fr g L' h₁ (fun y => binds.reverse.lookup y) → News g L' h₁ small → Below A base (env :: outer) g → K.In g → Top p loose mean mg mb g → (∀ q ∈ small, q.1 < L') → @LE.le Nat _ s.heap.objs.size L' → Kept s.heap (small.map (·.1)) g →
      wpAny (model prog w) (A.deeper (envOf qual scope L' f cdv)) (execs body (envOf qual scope L' f cdv))
        (fun fl s' => LeaveK h₀ L m g (PostF s.heap (small.map (·.1)) R) (match fl with | .ret v => v | _ => .none) s')
        (fun e s' => wpAny (model prog w) (A.deeper (envOf qual scope L' f cdv)) (leaving (envOf qual scope L' f cdv) e) (fun _ s'' => R (.error e) s'') (fun e' s'' => R (.error e') s'') s')
        { s with heap := h₁, toks := s.toks + binds.length })
    (hco : scope.isCoroutine = false) (hgen : scope.isGenerator = false) (hk : scope.kind = .function)
    (hcell : ∀ x ∈ scope.names, x.2 ≠ .cell) : codeAny (model prog w) A (.call (.ref f) args) R s := by
  obtain ⟨FG, BG, st, lv⟩ := groundX (R := R) B F N hA hf hke
  have kp : Kept s.heap (small.map (·.1)) (hideAll s.heap (small.map (·.1))) := fun b o e hb => hideAll_get _ e hb
  refine codeAny_call_def (fd := fnOf name qual params body scope dV kV doc pm an cdv ct) (body := body) (binds := binds) hroom ((X₀.keeps F.keep) _ _ ho) rfl (T.nolimit.keeps F.keep) (codeRec_of (X₀.keeps F.keep) hcd) rfl hbind hcell hloc (fun h₁ hns hk₁ => ?_) hco hgen hk
  exact wpAny_mono (h _ s.heap.objs.size h₁ FG ⟨hns, fun b o e => hk₁ b o (of_hideAll _ e), Nat.le_of_eq (hideAll_size _ _)⟩
    (fun q hq => ⟨hk₁ _ _ (N q hq).1, Nat.ne_of_lt (Heap.lt_size (N q hq).1), hideAll_none _ (List.mem_map_of_mem hq)⟩) BG (X₀.keeps st) (T.keeps st) (fun q hq => Heap.lt_size (N q hq).1) (Nat.le_refl _) kp) (fun fl s' hl => lv _ _ (leave_kept kp hl)) fun _ _ y => y
theorem code_FC {env : Env} {outer : List Env} {R : Result → Shared → Prop} {name qual : Str} {params : Arguments} {body : List Stmt} {scope : Scope} {dV kV doc pm cdv ct oc : Value} {an od : Option Addr} {osl : Array (Option Value)} {f : Addr} {args : Args} {binds : List (Str × Value)}
    (B : Below A₀ base outer h₀) (F : Fr h₀ L s.heap m) (X₀ : K.In h₀) (N : News h₀ L s.heap small) (T : Top p loose mean mg mb h₀) (hA : A.frames = some (env :: outer)) (hf : env.frame = some L) (hke : env.scope.kind = .function)
    (ho : K.lookup f = some ⟨oc, od, .func (fnOf name qual params body scope dV kV doc pm an cdv ct), osl⟩) (hcd : codeIn K cdv qual = true) (hroom : A.depth < recursionLimit)
    (hbind : BindsTo s (fnOf name qual params body scope dV kV doc pm an cdv ct) args binds) (hkind : (binds.all fun y => scope.names.lookup y.1 == some .local || scope.names.lookup y.1 == some .cell) = true)
    (hnd : ((cellsFrom 0 scope.names []).map (·.1)).Nodup)
    (h : ∀ g L' h₁ tk cells, Fr h₀ L g m → Fr g L' h₁ (bindL (envOfC qual scope L' f cdv).kindOf binds fun _ => none) → News g L' h₁ (cells ++ small) →
      CellsAre (bindC (envOfC qual scope L' f cdv).kindOf binds fun _ => none) (cellsFrom (L' + 1) scope.names []) cells → Below A base (env :: outer) g → K.In g → Top p loose mean mg mb g → (∀ q ∈ small, q.1 < L') → @LE.le Nat _ s.heap.objs.size L' → Kept s.heap (small.map (·.1)) g →
      wpAny (model prog w) (A.deeper (envOfC qual scope L' f cdv)) (execs body (envOfC qual scope L' f cdv))
        (fun fl s' => LeaveK h₀ L m g (PostF s.heap (small.map (·.1)) R) (match fl with | .ret v => v | _ => .none) s')
        (fun e s' => wpAny (model prog w) (A.deeper (envOfC qual scope L' f cdv)) (leaving (envOfC qual scope L' f cdv) e) (fun _ s'' => R (.error e) s'') (fun e' s'' => R (.error e') s'') s')
        { s with heap := h₁, toks := tk })
    (hco : scope.isCoroutine = false) (hgen : scope.isGenerator = false) (hk : scope.kind = .function) : codeAny (model prog w) A (.call (.ref f) args) R s := by
  obtain ⟨FG, BG, st, lv⟩ := groundX (R := R) B F N hA hf hke
  have kp : Kept s.heap (small.map (·.1)) (hideAll s.heap (small.map (·.1))) := fun b o e hb => hideAll_get _ e hb
  have hlim := T.nolimit
  refine codeAny_call_function hroom ((X₀.keeps F.keep) _ _ ho) rfl hco hgen rfl (codeRec_of (X₀.keeps F.keep) hcd) (hbind _ _ _ _ ?_)
  refine wpAny_newFunctionEnv_cells hk (kindsX hkind _) fun env' he s' x => ?_
  subst he
  refine ⟨(hlim.keeps F.keep).keeps x.toInCall.keep, codeAny_func ?_⟩
  obtain ⟨h₁, tk, rfl, _⟩ := x.done
  have hk₁ := x.toInCall.keep
  obtain ⟨cells, NC, Y⟩ := Cl.news (h₀ := s.heap) (Nat.le_refl _) fun n c hm => ⟨x.cell n c (lookup_of_mem_nodup (cellsFrom_names scope.names 0 (s.heap.objs.size + 1) [] [] rfl ▸ hnd) hm), x.above n c hm⟩
  refine wpAny_mono (h _ s.heap.objs.size h₁ tk cells FG ⟨x.toInCall.ns, fun b o e => hk₁ b o (of_hideAll _ e), Nat.le_of_eq (hideAll_size _ _)⟩ (fun q hq => ?_) Y BG (X₀.keeps st) (T.keeps st) (fun q hq => Heap.lt_size (N q hq).1) (Nat.le_refl _) kp) (fun fl s' hl => lv _ _ (leave_kept kp hl)) fun _ _ y => y
  rcases List.mem_append.mp hq with hq | hq
  · refine ⟨(NC q hq).1, (NC q hq).2.1, ?_⟩
    cases e : (hideAll s.heap (small.map (·.1))).get? q.1 with
    | none => rfl
    | some o => have := of_hideAll _ e; rw [(NC q hq).2.2] at this; cases this
  · exact ⟨hk₁ _ _ (N q hq).1, Nat.ne_of_lt (Heap.lt_size (N q hq).1), hideAll_none _ (List.mem_map_of_mem hq)⟩
end
/-- the ledger's addresses ahead of d, as the walk leaves them in the context -/
def LtC : List Addr → Addr → Prop
  | [], _ => True
  | [a], d => @LT.lt Nat _ a d
  | a :: b :: r, d => @LT.lt Nat _ a d ∧ LtC (b :: r) d
def NeC : List Addr → Addr → Prop
  | [], _ => True
  | [a], d => @Ne Nat a d
  | a :: b :: r, d => @Ne Nat a d ∧ NeC (b :: r) d
theorem ltc_mem {d : Addr} : ∀ {as : List Addr}, LtC as d → ∀ a ∈ as, @LT.lt Nat _ a d
  | [], _, _, h => nomatch h
  | [_], h, a, ha => by rw [List.mem_singleton.mp ha]; exact h
  | _ :: _ :: _, h, a, ha => by
    rcases List.mem_cons.mp ha with rfl | ha
    · exact h.1
    · exact ltc_mem h.2 a ha
theorem nec_mem {d : Addr} : ∀ {as : List Addr}, NeC as d → ∀ a ∈ as, @Ne Nat a d
  | [], _, _, h => nomatch h
  | [_], h, a, ha => by rw [List.mem_singleton.mp ha]; exact h
  | _ :: _ :: _, h, a, ha => by
    rcases List.mem_cons.mp ha with rfl | ha
    · exact h.1
    · exact nec_mem h.2 a ha
theorem ltc_all {d : Addr} {as : List Addr} {r : List (Addr × Obj)} (e : r.map (·.1) = as) (h : LtC as d) : ∀ p ∈ r, p.1 ≠ d := fun _ hp => Nat.ne_of_lt (ltc_mem h _ (e ▸ List.mem_map_of_mem hp))
theorem nec_all {d : Addr} {as : List Addr} {r : List (Addr × Obj)} (e : r.map (·.1) = as) (h : NeC as d) : ∀ p ∈ r, p.1 ≠ d := fun _ hp => nec_mem h _ (e ▸ List.mem_map_of_mem hp)
theorem ltc_cons {a d : Addr} {r : List Addr} (h1 : @LT.lt Nat _ a d) (h2 : LtC r d) : LtC (a :: r) d := by
  cases r with
  | nil => exact h1
  | cons b r => exact ⟨h1, h2⟩
theorem ltc_up {d e : Addr} (he : @LT.lt Nat _ d e) : ∀ {as : List Addr}, LtC as d → LtC as e
  | [], _ => trivial
  | [_], h => Nat.lt_trans h he
  | _ :: _ :: _, h => ⟨Nat.lt_trans h.1 he, ltc_up he h.2⟩
theorem ltc_of {d : Addr} : ∀ {l : List (Addr × Obj)}, (∀ p ∈ l, p.1 < d) → LtC (l.map (·.1)) d
  | [], _ => trivial
  | p :: _, h => ltc_cons (h p (.head _)) (ltc_of fun q hq => h q (.tail _ hq))
theorem nec_cons {a d : Addr} {r : List Addr} (h1 : @Ne Nat a d) (h2 : NeC r d) : NeC (a :: r) d := by
  cases r with
  | nil => exact h1
  | cons b r => exact ⟨h1, h2⟩
theorem nec_of {d : Addr} : ∀ {l : List (Addr × Obj)}, LCg.Off1 d l → NeC (l.map (·.1)) d
  | [], _ => trivial
  | _ :: _, h => nec_cons h.1 (nec_of h.2)
theorem upd_ltm {d : Addr} {o o' : Obj} {p : Addr × Obj} {as : List Addr} {r r' : List (Addr × Obj)} (U : Upd d o o' r r') (h : LtC as p.1) (hm : d ∈ as) : Upd d o o' (p :: r) (p :: r') := .tail (Nat.ne_of_gt (ltc_mem h d hm)) U
theorem upd_nem {d : Addr} {o o' : Obj} {p : Addr × Obj} {as : List Addr} {r r' : List (Addr × Obj)} (U : Upd d o o' r r') (h : NeC as p.1) (hm : d ∈ as) : Upd d o o' (p :: r) (p :: r') := .tail (Ne.symm (nec_mem h d hm)) U
theorem updF_ltm {d : Addr} {o : Obj} {p : Addr × Obj} {as : List Addr} {r : List (Addr × Obj)} {g : Obj → List (Addr × Obj)} (U : UpdF d o r g) (h : LtC as p.1) (hm : d ∈ as) : UpdF d o (p :: r) (fun o' => p :: g o') := .tail (Nat.ne_of_gt (ltc_mem h d hm)) U
theorem updF_nem {d : Addr} {o : Obj} {p : Addr × Obj} {as : List Addr} {r : List (Addr × Obj)} {g : Obj → List (Addr × Obj)} (U : UpdF d o r g) (h : NeC as p.1) (hm : d ∈ as) : UpdF d o (p :: r) (fun o' => p :: g o') := .tail (Ne.symm (nec_mem h d hm)) U
theorem not_lt_in {d : Addr} {as bs : List Addr} (h : LtC as d) (sub : ∀ a ∈ bs, a ∈ as) : d ∉ bs := fun hd => Nat.lt_irrefl _ (ltc_mem h d (sub d hd))
theorem not_ne_in {d : Addr} {as bs : List Addr} (h : NeC as d) (sub : ∀ a ∈ bs, a ∈ as) : d ∉ bs := fun hd => nec_mem h d (sub d hd) rfl
theorem news_drop1 {h₀ h : Heap} {L : Addr} {a b : Addr × Obj} {r : List (Addr × Obj)} (N : News h₀ L h (a :: b :: r)) : News h₀ L h (a :: r) := fun p hp => N p (by
  rcases List.mem_cons.mp hp with rfl | hp
  · exact .head _
  · exact .tail _ (.tail _ hp))
theorem news_drop2 {h₀ h : Heap} {L : Addr} {a b c : Addr × Obj} {r : List (Addr × Obj)} (N : News h₀ L h (a :: b :: c :: r)) : News h₀ L h (a :: r) := news_drop1 (news_drop1 N)
theorem ltc_tail {a d : Addr} {r : List Addr} (h : LtC (a :: r) d) : LtC r d := by
  cases r with
  | nil => exact trivial
  | cons b r => exact h.2
theorem nec_tail {a d : Addr} {r : List Addr} (h : NeC (a :: r) d) : NeC r d := by
  cases r with
  | nil => exact trivial
  | cons b r => exact h.2
end
section
/-! ## the plain law -/
/-- the exponent, the number one less than its power of two, is that number prime -/
def Ok (p n : Int) (b : Bool) : Prop := (p = 3 ∧ n = 7 ∧ b = true) ∨ (p = 5 ∧ n = 31 ∧ b = true) ∨ (p = 7 ∧ n = 127 ∧ b = true) ∨ (p = 11 ∧ n = 2047 ∧ b = false) ∨ (p = 13 ∧ n = 8191 ∧ b = true)
structure St where
  h : Int
  a : Int
  b : Int
  c : Int
  d : Int
noncomputable def cellV (n x y z w : Int) : Int := Int.tmod (Int.tmod (0 + Int.tmod (x * y) n) n + Int.tmod (z * w) n) n
noncomputable def stp (n : Int) (s : St) : St := ⟨Int.tmod (s.h * s.h - 2) n, cellV n s.a s.a s.b s.c, cellV n s.a s.b s.b s.d, cellV n s.c s.a s.d s.c, cellV n s.c s.b s.d s.d⟩
noncomputable def itS (n : Int) : Nat → St
  | 0 => ⟨4, 2, 1, 3, 2⟩
  | k + 1 => stp n (itS n k)
noncomputable def inB (n x : Int) : Bool := decide (0 ≤ x) && decide (x < n)
noncomputable def good (n : Int) (s : St) : Bool := inB n s.h && inB n s.a && inB n s.b && inB n s.c && inB n s.d &&
  (Int.fmod ((stp n s).a + (stp n s).d - (stp n s).h) n == 0) && (Int.fmod ((stp n s).a * (stp n s).d - (stp n s).b * (stp n s).c - 1) n == 0)
noncomputable def goods (n : Int) : Nat → St → Bool
  | 0, _ => true
  | k + 1, s => good n s && goods n k (stp n s)
theorem itS_shift (n : Int) (s0 : St) (f : Nat → St) (h0 : f 0 = s0) (hs : ∀ k, f (k + 1) = stp n (f k)) : ∀ m j, goods n m (f j) = true → ∀ k, j ≤ k → k < j + m → good n (f k) = true
  | 0, j, _, k, h1, h2 => by omega
  | m + 1, j, h, k, h1, h2 => by
    rw [goods, Bool.and_eq_true] at h
    rcases Nat.eq_or_lt_of_le h1 with e | h3
    · subst e; exact h.1
    · rw [← hs] at h
      exact itS_shift n s0 f h0 hs m (j + 1) h.2 k h3 (by omega)
theorem goods_all {p n : Int} {b : Bool} (ok : Ok p n b) : goods n (p - 2).toNat (itS n 0) = true := by
  rcases ok with ⟨rfl, rfl, _⟩ | ⟨rfl, rfl, _⟩ | ⟨rfl, rfl, _⟩ | ⟨rfl, rfl, _⟩ | ⟨rfl, rfl, _⟩ <;> decide +kernel
theorem good_at {p n : Int} {b : Bool} (ok : Ok p n b) {k : Nat} (hk : k < (p - 2).toNat) : good n (itS n k) = true :=
  itS_shift n _ (itS n) rfl (fun _ => rfl) (p - 2).toNat 0 (goods_all ok) k (Nat.zero_le _) (by omega)
theorem last_at {p n : Int} {b : Bool} (ok : Ok p n b) : ((itS n (p - 2).toNat).h == 0) = b := by
  rcases ok with ⟨rfl, rfl, rfl⟩ | ⟨rfl, rfl, rfl⟩ | ⟨rfl, rfl, rfl⟩ | ⟨rfl, rfl, rfl⟩ | ⟨rfl, rfl, rfl⟩ <;> decide +kernel
theorem good_out {n : Int} {s : St} (h : good n s = true) : (0 ≤ s.h ∧ s.h < n ∧ 0 ≤ s.a ∧ s.a < n ∧ 0 ≤ s.b ∧ s.b < n ∧ 0 ≤ s.c ∧ s.c < n ∧ 0 ≤ s.d ∧ s.d < n) ∧
    Int.fmod ((stp n s).a + (stp n s).d - (stp n s).h) n = 0 ∧ Int.fmod ((stp n s).a * (stp n s).d - (stp n s).b * (stp n s).c - 1) n = 0 := by
  unfold good inB at h
  simp only [Bool.and_eq_true, decide_eq_true_eq, beq_iff_eq] at h
  obtain ⟨⟨⟨⟨⟨⟨⟨h1, h2⟩, h3, h4⟩, h5, h6⟩, h7, h8⟩, h9, h10⟩, h11⟩, h12⟩ := h
  exact ⟨⟨h1, h2, h3, h4, h5, h6, h7, h8, h9, h10⟩, h11, h12⟩
theorem Ok.n_bd {p n : Int} {b : Bool} (ok : Ok p n b) : 3 ≤ p ∧ p ≤ 13 ∧ 7 ≤ n ∧ n < 8192 := by
  rcases ok with ⟨rfl, rfl, _⟩ | ⟨rfl, rfl, _⟩ | ⟨rfl, rfl, _⟩ | ⟨rfl, rfl, _⟩ | ⟨rfl, rfl, _⟩ <;> decide
/-! ## the claims at the five exponents -/
theorem Says.weak {k : Nat} {w : World} {p : Program} {loose : List Str} {mean : ExcName → Option Value} {mg mb : Str → Option Value} {f : Addr} {pre pre' : Prop} {vs : List Value} {R : Tok → Value} (C : Says k w p loose mean mg mb f pre vs R) (h : pre' → pre) : Says k w p loose mean mg mb f pre' vs R := by
  unfold Says at C ⊢
  intro _ _ _ _ _ _ _ _ _ _ _ _ _ _ _ _ _ _ B F X N T hk hp hd hu ret
  exact C _ _ _ _ _ _ _ _ _ _ _ _ _ _ _ _ _ _ B F X N T hk (h hp) hd hu ret
/-! ## the loop -/
section
variable {prog : Program} {w : World} {A : Around} {E : Value → Shared → Prop} {s : Shared} {env : Env} {h₀ : Heap} {x : Str} {body : List Stmt} {Q : Flow → Shared → Prop}
theorem range_turns {r : Addr} {a₀ b₀ : Int} {t₀ u₀ v₀ : Tok} {n : Nat} {m₀ : Str → Option Value} {news nx₀ : List (Addr × Obj)} (J : Nat → (Str → Option Value) → List (Addr × Obj) → Prop)
    (hh : A.handled = none) (hr : IsRange s.heap r a₀ b₀ 1 t₀ u₀ v₀) (hsmall : Builtin.Range.small a₀ b₀ 1 = true) (hsz : Builtin.Range.rangeSize a₀ b₀ 1 = (n : Int))
    (F : Fr h₀ env.locals s.heap m₀) (N : News h₀ env.locals s.heap news) (hn : ∀ p ∈ nx₀, p ∈ news) (hj : J 0 m₀ nx₀)
    (turn : ∀ (i : Nat) (t : Tok) (m₁ : Str → Option Value) (nx : List (Addr × Obj)) (h : Heap) (tk : Nat) (I : Addr) (oI : Obj), i < n → (∀ p ∈ nx, p.1 ≠ I) → @LT.lt Nat _ env.locals I → J i m₁ nx →
      Fr h₀ env.locals h (fun y => if y = x then some (.int (a₀ + (i : Int)) t) else m₁ y) → News h₀ env.locals h ((I, oI) :: nx) →
      wpAny (model prog w) A (execs body env) (InvPostG h₀ env.locals (J (i + 1)) [(I, oI)] { s with heap := h, toks := tk } Q) E { s with heap := h, toks := tk })
    (done : ∀ (m₁ : Str → Option Value) (nx : List (Addr × Obj)) (h : Heap) (tk : Nat), J n m₁ nx → Fr h₀ env.locals h m₁ → News h₀ env.locals h nx → Q .next { s with heap := h, toks := tk }) :
    wpAny (model prog w) A (pyIter (.ref r)) (fun it s₂ => LoopAtV prog w A h₀ env x body Q E it s₂) E s := by
  refine wpAny_pyIter_range hr hsmall ?_
  have W : Walks prog w A s.heap.objs.size [s.heap.objs.size] [s.heap.objs.size] n (fun i v => i < n ∧ ∃ t, v = .int (a₀ + i * 1) t)
      (fun i h => IsRangeIter h s.heap.objs.size (a₀ + (i : Nat) * 1) ((n : Int) - (i : Nat)) 1) := (Walks.range hh _ a₀ 1 n).bound
  have hI0 : h₀.get? s.heap.objs.size = none := next_is_new F
  refine ⟨s.heap.objs.size, _, _, n, _, _, m₀, nx₀, J, rfl, W, ?_, ?_, ?_, ?_, F.push _, (fun p hp => ⟨Heap.get?_push_of_some _ (N p (hn p hp)).1, (N p (hn p hp)).2⟩), hj, ?_, ?_⟩
  · intro hm
    exact absurd F.ns.lt ((List.mem_singleton.mp hm) ▸ Nat.lt_irrefl _)
  · intro b hb
    rw [List.mem_singleton.mp hb]
    exact hI0
  · intro p hp hI
    exact absurd (Heap.lt_size (N p (hn p hp)).1) ((List.mem_singleton.mp hI) ▸ Nat.lt_irrefl _)
  · show IsRangeIter _ _ _ _ _
    rw [hsz]; simpa using Heap.get?_push_size _ rfl
  · rintro i v m₁ nx s₁ own ⟨hh', tk', rfl⟩ hin ⟨hin', t, rfl⟩ hJ hoff hown hget hfp hst F₁ N₁
    have e1 : a₀ + (i : Int) * 1 = a₀ + (i : Int) := by omega
    rw [e1] at F₁
    obtain ⟨oI, hoI⟩ : ∃ oI, hh'.get? s.heap.objs.size = some oI := ⟨_, hst⟩
    have hIown : (s.heap.objs.size, oI) ∈ own := hfp _ (List.mem_singleton.mpr rfl) hI0 _ hoI
    have only : ∀ p ∈ own, p = (s.heap.objs.size, oI) := by
      intro p hp
      have h1 := List.mem_singleton.mp (hown p hp)
      have h2 := hget p hp
      rw [h1] at h2
      rw [hoI] at h2
      exact Prod.ext h1 (Option.some.inj h2).symm
    have N₂ : News h₀ env.locals hh' ((s.heap.objs.size, oI) :: nx) := fun p hp => by
      rcases List.mem_cons.mp hp with e | hp
      · rw [e]; exact N₁ _ (List.mem_append.mpr (.inl hIown))
      · exact N₁ p (List.mem_append.mpr (.inr hp))
    refine wpAny_mono (turn i t m₁ nx hh' tk' s.heap.objs.size oI hin (fun p hp e => hoff p hp (List.mem_singleton.mpr e)) F.ns.lt hJ F₁ N₂) (fun f s₂ p => ?_) fun _ _ e => e
    have fin : InvEndG h₀ env.locals (J (i + 1)) [(s.heap.objs.size, oI)] { s with heap := hh', toks := tk' } s₂ → LoopStepU h₀ env.locals [s.heap.objs.size] own (J (i + 1)) { s with heap := hh', toks := tk' } .next s₂ := by
      rintro ⟨h', tk, m', news', nx', e, F', N', hn', ho, ha, hm⟩
      refine ⟨rfl, h', tk, m', nx', e, F', fun p hp => ?_, fun p hp hq => ?_, hm⟩
      · rcases List.mem_append.mp hp with h | h
        · rw [only p h]; exact N' _ (ho _ (List.mem_singleton.mpr rfl))
        · exact N' p (hn' p h)
      · exact ha _ (List.mem_singleton.mpr rfl) p.1 (List.mem_map.mpr ⟨p, hp, rfl⟩) (List.mem_singleton.mp hq).symm
    cases f with
    | ret v => exact .ret p
    | brk => exact .brk p
    | next => exact .next (fin p)
    | cont => exact .cont (fin p)
  · rintro h' tk m' news' F' N' _ hJ
    exact done m' news' h' tk hJ F' N'
end
end
section
/-! ## trial division, and a while by what holds ahead of each turn -/
noncomputable def trial (n : Int) : Nat → Int → Option Bool
  | 0, _ => none
  | f + 1, p => if p ≤ 100 then (if decide (p * p ≤ n) = true then (if (Int.fmod n p == 0) = true then some false else trial n f (p + 2)) else some true) else none
def PostW (J : Shared → Prop) (Q : Flow → Shared → Prop) (f : Flow) (s : Shared) : Prop :=
  match f with
  | .next => Hold (J s)
  | .cont => Hold (J s)
  | .brk => Q .next s
  | .ret v => Q (.ret v) s
section
variable {prog : Program} {w : World} {A : Around} {E : Value → Shared → Prop} {s : Shared} {env : Env} {test : PySem.Expr} {body orelse : List Stmt} {Q : Flow → Shared → Prop}
theorem while_turns (J : Nat → Shared → Prop) (hE : PassesOwn (model prog w) A env E)
    (turn : ∀ k s, J k s → wpAny (model prog w) A (isTrue test env (eval test env)) (fun b s₂ => WhlIf b (wpAny (model prog w) A (execs body env) (PostW (fun s => ∃ k', k' < k ∧ J k' s) Q) E s₂) (wpAny (model prog w) A (execs orelse env) Q E s₂)) E s) :
    ∀ n k s, k < n → J k s → WhlRest prog w A E env test body orelse Q 0 s
  | 0, _, _, h, _ => absurd h (Nat.not_lt_zero _)
  | n + 1, k, s, hk, hj => by
    have back : ∀ s', (∃ k', k' < k ∧ J k' s') → WhlRest prog w A E env test body orelse Q 0 s' := fun s' ⟨k', h1, h2⟩ => while_turns J hE turn n k' s' (by omega) h2
    refine whl_turn (k := 0) hE (wpAny_mono (turn k s hj) (fun b s₂ h => ?_) fun _ _ e => e)
    cases b with
    | false => exact h
    | true =>
      unfold WhlIf at h ⊢
      rw [if_pos rfl] at h ⊢
      refine wpAny_mono h (fun f s₃ h => ?_) fun _ _ e => e
      cases f with
      | next => exact back _ h
      | cont => exact back _ h
      | brk => exact h
      | ret v => exact h
theorem pow_ok {e n : Int} {b : Bool} {t u : Tok} {Q : Value → Shared → Prop} (ok : Ok e n b) (h : ∀ u tk, Q (.int (n + 1) u) { s with toks := tk }) : wpAny (model prog w) A (binaryOp .Pow (.int 2 t) (.int e u)) Q E s := by
  have e1 : (2 : Int) ^ e.toNat = n + 1 := by
    rcases ok with ⟨rfl, rfl, _⟩ | ⟨rfl, rfl, _⟩ | ⟨rfl, rfl, _⟩ | ⟨rfl, rfl, _⟩ | ⟨rfl, rfl, _⟩ <;> decide
  have hb := ok.n_bd
  refine pow_int_small (by omega) (by omega) (by decide) ?_
  rw [e1]
  exact h _ _
end
theorem map_form {m : Str → Option Value} {x y : Str} {v v' : Option Value} (h1 : m x = v) (h2 : m y = v') : m = fun z => if z = x then v else if z = y then v' else m z := by
  funext z
  by_cases e1 : z = x
  · subst e1; rw [if_pos rfl, h1]
  · rw [if_neg e1]
    by_cases e2 : z = y
    · subst e2; rw [if_pos rfl, h2]
    · rw [if_neg e2]
theorem pow_says {e n : Int} {b : Bool} (ok : Ok e n b) {w p loose mean mg mb} (tp ta tb tc td : Tok) :
    Says 5 w p loose mean mg mb 232 True [.str (Str.ofString "^") tp, .int 2 ta, .int e tb, .int 32 tc, .int 9 td] (fun t => .int (n + 1) t) := by
  k_with_none
  k_with "ktr_rel" => (( (case k1 => k_asm); (case k2 => k_asm); (case k3 => k_asm); (case k4 => k_asm); (case k5 => k_asm); (case kK => first | exact rfl | assumption); (case kp => first | trivial | with_reducible assumption | ((repeat' refine And.intro ?_ ?_) <;> first | with_reducible assumption | exact And.left (by with_reducible assumption) | exact And.right (by with_reducible assumption) | decide | omega) | omega | fail "premise"); (case kd => ktr_room); (case ku => ktr_units); k_whole; intro _ _ _ _ _; (try dsimp only); (try k_fold)))
  k_with "ktr_room" => (first | (refine' roomL ?ra ?rb; (case ra => with_reducible assumption); (case rb => exact Nat.le_of_ble_eq_true rfl)) | fail "room")
  k_with "ktr_units" => (first | (refine' roomL ?ra ?rb; (case ra => with_reducible assumption); (case rb => exact Nat.le_of_ble_eq_true rfl)) | fail "room")
  k_with "k_units" => (first | exact Nat.le_of_ble_eq_true rfl | ktr_units)
  k_with "ite" => ((k_here; k_openite; first | (refine ite_pos (by (simp only [decide_eq_true_eq, beq_iff_eq, bne_iff_ne, ne_eq]; omega)) ?_; walk_say "MINE") | (refine ite_neg (by (simp only [decide_eq_true_eq, beq_iff_eq, bne_iff_ne, ne_eq]; omega)) ?_; walk_say "MINE")))
  k_with "call builtin:abs" => ((k_here; (first | refine abs_nn (by omega) ?_ | refine abs_ng (by omega) ?_); intro _ _))
  k_with "call ref" => ((k_here; k_dflt (refine' Says.use (fits_says _ _ _) ?k1 ?k2 ?k3 ?k4 ?k5 ?kK ?kp ?kd ?ku ?_; ktr_rel)))
  k_with "call ref" => ((k_here; k_dflt (refine' Says.use (settled_says _ _ _ _) ?k1 ?k2 ?k3 ?k4 ?k5 ?kK ?kp ?kd ?ku ?_; ktr_rel)))
  k_with "call ref" => ((k_here; k_dflt (refine' Says.use (whole_of_says _ _ _) ?k1 ?k2 ?k3 ?k4 ?k5 ?kK ?kp ?kd ?ku ?_; ktr_rel)))
  k_with "call ref" => ((k_here; k_dflt (refine' Says.use (is_whole_says _ _) ?k1 ?k2 ?k3 ?k4 ?k5 ?kK ?kp ?kd ?ku ?_; ktr_rel)))
  k_with "binaryOp Pow int int" => ((k_here; (with_reducible refine pow_ok (by assumption) ?_); intro _ _))
  k_with "exec While Compare cons nil" => ((k_here; k_dflt (refine whl_start 0 ?_); refine Hold.of ?_))
  k_with "PostW" => ((dsimp only [PostW]))
  k_with "execs nil" => ((with_reducible refine wpAny_execs_nil ?_))
  k_with "WhlIf" => ((first | (refine WhlIf.yes (by assumption) ?_) | (refine WhlIf.no (by assumption) ?_)))
  k_with "binaryOp Mod int int" => ((k_here; (with_reducible refine mod_int' (by assumption) ?_)))
  k_with "ite" => ((k_here; k_openite; first | (refine ite_pos (by assumption) ?_) | (refine ite_neg (ne_true_of_eq_false (by assumption)) ?_)))
  unfold Says CbRet
  k_fill
  intros
  rename_i hpre _ _ hret
  have hbd := ok.n_bd
  refine wpAny_call ?_
  k_dflt cell_enter
  k_steps
  all_goals (cb_end hret)
theorem less_says {e n : Int} {b : Bool} (ok : Ok e n b) {w q loose mean mg mb} (tp ta tb tc td : Tok) :
    Says 4 w q loose mean mg mb 232 True [.str (Str.ofString "-") tp, .int (n + 1) ta, .int 1 tb, .int 32 tc, .int 9 td] (fun t => .int n t) := by
  have h := Says.weak (pre' := True) (reck_sub (w := w) (p := q) (loose := loose) (mean := mean) (mg := mg) (mb := mb) (n + 1) 1 tp ta tb tc td) (by intro _; have := ok.n_bd; omega)
  rw [Int.add_sub_cancel] at h
  exact h
theorem Fr.form {g h : Heap} {L : Addr} {m : Str → Option Value} {x y : Str} {v v' : Option Value} (F : Fr g L h m) (h1 : m x = v) (h2 : m y = v') : Fr g L h (fun z => if z = x then v else if z = y then v' else m z) :=
  map_form h1 h2 ▸ F
theorem prime_one {n : Int} {b : Bool} (hn : 0 < n ∧ n < 8192) (ht : trial n 50 3 = some b) {w p loose mean mg mb} (tx : Tok) : Says 1 w p loose mean mg mb 253 True [.int n tx] (fun _ => .bool b) := by
  k_with_none
  k_with "ktr_rel" => (( (case k1 => k_asm); (case k2 => k_asm); (case k3 => k_asm); (case k4 => k_asm); (case k5 => k_asm); (case kK => first | exact rfl | assumption); (case kp => first | trivial | with_reducible assumption | ((repeat' refine And.intro ?_ ?_) <;> first | with_reducible assumption | exact And.left (by with_reducible assumption) | exact And.right (by with_reducible assumption) | decide | omega) | omega | fail "premise"); (case kd => ktr_room); (case ku => ktr_units); k_whole; intro _ _ _ _ _; (try dsimp only); (try k_fold)))
  k_with "ktr_room" => (first | (refine' roomL ?ra ?rb; (case ra => with_reducible assumption); (case rb => exact Nat.le_of_ble_eq_true rfl)) | fail "room")
  k_with "ktr_units" => (first | (refine' roomL ?ra ?rb; (case ra => with_reducible assumption); (case rb => exact Nat.le_of_ble_eq_true rfl)) | fail "room")
  k_with "k_units" => (first | exact Nat.le_of_ble_eq_true rfl | ktr_units)
  k_with "ite" => ((k_here; k_openite; first | (refine ite_pos (by (simp only [decide_eq_true_eq, beq_iff_eq, bne_iff_ne, ne_eq]; omega)) ?_; walk_say "MINE") | (refine ite_neg (by (simp only [decide_eq_true_eq, beq_iff_eq, bne_iff_ne, ne_eq]; omega)) ?_; walk_say "MINE")))
  k_with "call builtin:abs" => ((k_here; (first | refine abs_nn (by omega) ?_ | refine abs_ng (by omega) ?_); intro _ _))
  k_with "call ref" => ((k_here; k_dflt (refine' Says.use (fits_says _ _ _) ?k1 ?k2 ?k3 ?k4 ?k5 ?kK ?kp ?kd ?ku ?_; ktr_rel)))
  k_with "call ref" => ((k_here; k_dflt (refine' Says.use (settled_says _ _ _ _) ?k1 ?k2 ?k3 ?k4 ?k5 ?kK ?kp ?kd ?ku ?_; ktr_rel)))
  k_with "call ref" => ((k_here; k_dflt (refine' Says.use (whole_of_says _ _ _) ?k1 ?k2 ?k3 ?k4 ?k5 ?kK ?kp ?kd ?ku ?_; ktr_rel)))
  k_with "call ref" => ((k_here; k_dflt (refine' Says.use (is_whole_says _ _) ?k1 ?k2 ?k3 ?k4 ?k5 ?kK ?kp ?kd ?ku ?_; ktr_rel)))
  k_with "binaryOp Pow int int" => ((k_here; (with_reducible refine pow_ok (by assumption) ?_); intro _ _))
  k_with "exec While Compare cons nil" => ((k_here; k_dflt (refine whl_start 0 ?_); refine Hold.of ?_))
  k_with "PostW" => ((dsimp only [PostW]))
  k_with "execs nil" => ((with_reducible refine wpAny_execs_nil ?_))
  k_with "WhlIf" => ((first | (refine WhlIf.yes (by assumption) ?_) | (refine WhlIf.no (by assumption) ?_)))
  k_with "binaryOp Mod int int" => ((k_here; (with_reducible refine mod_int' (by assumption) ?_)))
  k_with "ite" => ((k_here; k_openite; first | (refine ite_pos (by assumption) ?_) | (refine ite_neg (ne_true_of_eq_false (by assumption)) ?_)))
  unfold Says CbRet
  k_fill
  intro dp un gd cn cs a ccd cl outer A₀ base h₀ L m news s Q E B F X N T hk hpre hdp hun hret
  refine wpAny_call ?_
  k_dflt cell_enter
  k_steps
  rename_i g1 L1 h0 FG BB XX TT h1 F1 N1
  unfold Hold
  refine while_turns (J := fun k s₂ => ∃ (q : Int) (t : Tok) (u : Str → Option Value) (h : Heap) (tk : Nat), s₂ = { s with heap := h, toks := tk } ∧ trial n k q = some b ∧ 3 ≤ q ∧
    Fr g1 L1 h (fun z => if z = Str.ofString "part" then some (.int q t) else if z = Str.ofString "size" then some (.int n tx) else u z) ∧ News g1 L1 h news) (by passes_own) ?turn 51 50 _ (by decide) ⟨3, _, _, _, _, rfl, ht, by decide, Fr.form F1 rfl rfl, N1⟩
  rintro k _ ⟨q, t, u, h, tk, rfl, htr, hq, F2, N2⟩
  cases k with
  | zero => cases htr
  | succ k =>
  rw [trial] at htr
  by_cases c0 : q ≤ 100
  case neg => rw [if_neg c0] at htr; cases htr
  rw [if_pos c0] at htr
  have hqq := mul_bd (x := q) (y := q) (by omega) (by omega) (by omega) (by omega)
  have hq0 : q ≠ 0 := by omega
  clear F1 N1 F N
  by_cases c1 : decide (q * q ≤ n) = true
  · rw [if_pos c1] at htr
    by_cases c2 : (Int.fmod n q == 0) = true
    · rw [if_pos c2] at htr
      cases htr
      k_steps
      all_goals (cb_end hret)
    · rw [if_neg c2] at htr
      have c3 : (Int.fmod n q == 0) = false := by cases e : (Int.fmod n q == 0) with | true => exact absurd e c2 | false => rfl
      clear c2
      k_steps
      rename Fr g1 L1 _ _ => F3
      rename News g1 L1 _ _ => N3
      exact ⟨k, Nat.lt_succ_self k, _, _, _, _, _, rfl, htr, by omega, Fr.form F3 rfl rfl, N3⟩
  · rw [if_neg c1] at htr
    cases htr
    have c3 : decide (q * q ≤ n) = false := by cases e : decide (q * q ≤ n) with | true => exact absurd e c1 | false => rfl
    clear c1
    k_steps
    all_goals (cb_end hret)
theorem prime_says {e n : Int} {b : Bool} (ok : Ok e n b) {w q loose mean mg mb} (tx : Tok) : Says 1 w q loose mean mg mb 253 True [.int n tx] (fun _ => .bool b) := by
  have hb := ok.n_bd
  refine prime_one (by omega) ?_ tx
  rcases ok with ⟨_, rfl, rfl⟩ | ⟨_, rfl, rfl⟩ | ⟨_, rfl, rfl⟩ | ⟨_, rfl, rfl⟩ | ⟨_, rfl, rfl⟩ <;> decide +kernel
end
section
open PySem.Calls
/-- a call of f, whose ledger holds «own» among the rest -/
def SaysN (k : Nat) (w : World) (p : Program) (loose : List Str) (mean : ExcName → Option Value) (mg mb : Str → Option Value) (f : Addr) (own : List (Addr × Obj)) (pre : Prop) (vs : List Value) (R : Tok → Value) : Prop :=
  ∀ (dp un : Nat) (gd : Option (List Code)) (cn : Str) (sc : Scope) (a : Addr) (ccd : Value) (cl : List (Str × Addr)) (outer : List Env) (A₀ : Around) (base h₀ : Heap) (L : Addr) (m : Str → Option Value) (news : List (Addr × Obj)) (s : Shared) (Q E : Value → Shared → Prop),
    Below A₀ base outer h₀ → Fr h₀ L s.heap m → Frag.In (hd.heap_39 w.params) h₀ → News h₀ L s.heap news → Top p loose mean mg mb h₀ → sc.kind = .function → (∀ q ∈ own, q ∈ news) →
    pre → dp + k < recursionLimit → un + 64 * k < cLine → (∀ (t : Tok) (h' : Heap) (tk' : Nat), Fr h₀ L h' m → News h₀ L h' news → Q (R t) { s with heap := h', toks := tk' }) →
      wpAny (model PySem.Challenge.rw_xm0052_01.row.prog w) (ktrTop dp un gd cn sc L a ccd cl outer) (call (.ref f) vs) Q E s
theorem SaysN.useZ {k : Nat} {w : World} {p : Program} {loose : List Str} {mean : ExcName → Option Value} {mg mb : Str → Option Value} {f : Addr} {own : List (Addr × Obj)} {pre : Prop} {vs : List Value} {z₀ : Int} {P : Int → Prop} (C : SaysN k w p loose mean mg mb f own pre vs (fun t => .int z₀ t)) (hP : pre → P z₀)
    {dp un : Nat} {gd : Option (List Code)} {cn : Str} {sc : Scope} {a : Addr} {ccd : Value} {cl : List (Str × Addr)} {outer : List Env} {A₀ : Around} {base h₀ : Heap} {L : Addr} {m : Str → Option Value} {news : List (Addr × Obj)} {s : Shared} {Q E : Value → Shared → Prop}
    (B : Below A₀ base outer h₀) (F : Fr h₀ L s.heap m) (X : Frag.In (hd.heap_39 w.params) h₀) (N : News h₀ L s.heap news) (T : Top p loose mean mg mb h₀) (hk : sc.kind = .function) (sub : ∀ q ∈ own, q ∈ news)
    (hp : pre) (hd : dp + k < recursionLimit) (hu : un + 64 * k < cLine) (ret : ∀ (z : Int) (t : Tok) (h' : Heap) (tk' : Nat), P z → Fr h₀ L h' m → News h₀ L h' news → Q (.int z t) { s with heap := h', toks := tk' }) :
      wpAny (model PySem.Challenge.rw_xm0052_01.row.prog w) (ktrTop dp un gd cn sc L a ccd cl outer) (call (.ref f) vs) Q E s :=
  C _ _ _ _ _ _ _ _ _ _ _ _ _ _ _ _ _ _ B F X N T hk sub hp hd hu fun t h' tk' => ret z₀ t h' tk' (hP hp)
theorem mulP (x y n : Int) (h : 0 < n ∧ n < 8192 ∧ 0 ≤ x ∧ x < n ∧ 0 ≤ y ∧ y < n) : Int.tmod (x * y) n = Int.tmod (x * y) n ∧ 0 ≤ Int.tmod (x * y) n ∧ Int.tmod (x * y) n < n :=
  ⟨rfl, tmod_nn n (Int.mul_nonneg h.2.2.1 h.2.2.2.2.1), tmod_lt h.1⟩
theorem addP (x y n : Int) (h : 0 < n ∧ n < 8192 ∧ 0 ≤ x ∧ x < n ∧ 0 ≤ y ∧ y < n) : Int.tmod (x + y) n = Int.tmod (x + y) n ∧ 0 ≤ Int.tmod (x + y) n ∧ Int.tmod (x + y) n < n :=
  ⟨rfl, tmod_nn n (by omega), tmod_lt h.1⟩
theorem subP (x y n : Int) (h : 0 < n ∧ n < 8192 ∧ 0 ≤ x ∧ x < 70000000 ∧ 0 ≤ y ∧ y < 8192) : Int.tmod (x - y) n = Int.tmod (x - y) n ∧ -n < Int.tmod (x - y) n ∧ Int.tmod (x - y) n < n :=
  ⟨rfl, tmod_gt h.1, tmod_lt h.1⟩
def PlusSays (w : World) (p : Program) (loose : List Str) (mean : ExcName → Option Value) (mg mb : Str → Option Value) (n : Int) (f : Addr) (own : List (Addr × Obj)) : Prop :=
  ∀ (x y : Int) (tx ty : Tok), SaysN 6 w p loose mean mg mb f own (0 < n ∧ n < 8192 ∧ 0 ≤ x ∧ x < n ∧ 0 ≤ y ∧ y < n) [.int x tx, .int y ty] (fun t => .int (Int.tmod (x + y) n) t)
theorem PlusSays.use {w : World} {p : Program} {loose : List Str} {mean : ExcName → Option Value} {mg mb : Str → Option Value} {n : Int} {f : Addr} {own : List (Addr × Obj)} (C : PlusSays w p loose mean mg mb n f own) {x y : Int} {tx ty : Tok}
    {dp un : Nat} {gd : Option (List Code)} {cn : Str} {sc : Scope} {a : Addr} {ccd : Value} {cl : List (Str × Addr)} {outer : List Env} {A₀ : Around} {base h₀ : Heap} {L : Addr} {m : Str → Option Value} {news : List (Addr × Obj)} {s : Shared} {Q E : Value → Shared → Prop}
    (B : Below A₀ base outer h₀) (F : Fr h₀ L s.heap m) (X : Frag.In (hd.heap_39 w.params) h₀) (N : News h₀ L s.heap news) (T : Top p loose mean mg mb h₀) (hk : sc.kind = .function) (sub : ∀ q ∈ own, q ∈ news)
    (hp : (0 < n ∧ n < 8192 ∧ 0 ≤ x ∧ x < n ∧ 0 ≤ y ∧ y < n)) (hd : dp + 6 < recursionLimit) (hu : un + 64 * 6 < cLine) (ret : ∀ (z : Int) (t : Tok) (h' : Heap) (tk' : Nat), z = Int.tmod (x + y) n → 0 ≤ z → z < n → Fr h₀ L h' m → News h₀ L h' news → Q (.int z t) { s with heap := h', toks := tk' }) :
      wpAny (model PySem.Challenge.rw_xm0052_01.row.prog w) (ktrTop dp un gd cn sc L a ccd cl outer) (call (.ref f) [.int x tx, .int y ty]) Q E s :=
  C x y tx ty _ _ _ _ _ _ _ _ _ _ _ _ _ _ _ _ _ _ B F X N T hk sub hp hd hu fun t h' tk' => ret _ t h' tk' (addP x y n hp).1 (addP x y n hp).2.1 (addP x y n hp).2.2
def TimesSays (w : World) (p : Program) (loose : List Str) (mean : ExcName → Option Value) (mg mb : Str → Option Value) (n : Int) (f : Addr) (own : List (Addr × Obj)) : Prop :=
  ∀ (x y : Int) (tx ty : Tok), SaysN 6 w p loose mean mg mb f own (0 < n ∧ n < 8192 ∧ 0 ≤ x ∧ x < n ∧ 0 ≤ y ∧ y < n) [.int x tx, .int y ty] (fun t => .int (Int.tmod (x * y) n) t)
theorem TimesSays.use {w : World} {p : Program} {loose : List Str} {mean : ExcName → Option Value} {mg mb : Str → Option Value} {n : Int} {f : Addr} {own : List (Addr × Obj)} (C : TimesSays w p loose mean mg mb n f own) {x y : Int} {tx ty : Tok}
    {dp un : Nat} {gd : Option (List Code)} {cn : Str} {sc : Scope} {a : Addr} {ccd : Value} {cl : List (Str × Addr)} {outer : List Env} {A₀ : Around} {base h₀ : Heap} {L : Addr} {m : Str → Option Value} {news : List (Addr × Obj)} {s : Shared} {Q E : Value → Shared → Prop}
    (B : Below A₀ base outer h₀) (F : Fr h₀ L s.heap m) (X : Frag.In (hd.heap_39 w.params) h₀) (N : News h₀ L s.heap news) (T : Top p loose mean mg mb h₀) (hk : sc.kind = .function) (sub : ∀ q ∈ own, q ∈ news)
    (hp : (0 < n ∧ n < 8192 ∧ 0 ≤ x ∧ x < n ∧ 0 ≤ y ∧ y < n)) (hd : dp + 6 < recursionLimit) (hu : un + 64 * 6 < cLine) (ret : ∀ (z : Int) (t : Tok) (h' : Heap) (tk' : Nat), z = Int.tmod (x * y) n → 0 ≤ z → z < n → Fr h₀ L h' m → News h₀ L h' news → Q (.int z t) { s with heap := h', toks := tk' }) :
      wpAny (model PySem.Challenge.rw_xm0052_01.row.prog w) (ktrTop dp un gd cn sc L a ccd cl outer) (call (.ref f) [.int x tx, .int y ty]) Q E s :=
  C x y tx ty _ _ _ _ _ _ _ _ _ _ _ _ _ _ _ _ _ _ B F X N T hk sub hp hd hu fun t h' tk' => ret _ t h' tk' (mulP x y n hp).1 (mulP x y n hp).2.1 (mulP x y n hp).2.2
noncomputable def pick (k x y : Int) : Int := if k = 0 then x else y
theorem pick_bd {k x y n : Int} (h1 : 0 ≤ x ∧ x < n) (h2 : 0 ≤ y ∧ y < n) : 0 ≤ pick k x y ∧ pick k x y < n := by
  unfold pick
  split
  · exact h1
  · exact h2
section
variable {prog : Program} {w : World} {A : Around} {E : Value → Shared → Prop} {s : Shared} {h₀ : Heap} {L l : Addr} {news : List (Addr × Obj)}
theorem item_led {value slice : PySem.Expr} {vs : List Value} {i : Nat} {k : Int} {u : Tok} {v : Value} {Q : Value → Shared → Prop} (N : News h₀ L s.heap news) (hm : (l, listOf vs.toArray i) ∈ news)
    (h0 : 0 ≤ k) (hhi : k < 2 ^ 63) (hx : vs[k.toNat]? = some v) (h : Q v s)
    (hs : subscripted slice false (.ref l) (.int k u) = operate [.ref l, .int k u] (getItem (.ref l) (.int k u))) :
    wpAny (model prog w) A (subscriptTail value slice (.ref l) (.int k u)) Q E s :=
  have hL : s.heap.IsList l vs.toArray := ⟨_, (N _ hm).1, rfl, i, rfl⟩
  tail_any hL.typeIs slot_list_getitem.lookup (wpAny_getItem_list hL h0 hhi (by simpa using hx) h) hs
theorem item_pick {value slice : PySem.Expr} {x y : Int} {tx ty : Tok} {i : Nat} {k : Int} {u : Tok} {Q : Value → Shared → Prop} (N : News h₀ L s.heap news) (hm : (l, listOf [Value.int x tx, Value.int y ty].toArray i) ∈ news)
    (hk : 0 ≤ k ∧ k < 2) (h : ∀ t, Q (.int (pick k x y) t) s)
    (hs : ∀ k : Int, subscripted slice false (.ref l) (.int k u) = operate [.ref l, .int k u] (getItem (.ref l) (.int k u))) :
    wpAny (model prog w) A (subscriptTail value slice (.ref l) (.int k u)) Q E s := by
  have hh : k = 0 ∨ k = 1 := by omega
  rcases hh with rfl | rfl
  · exact item_led N hm (by decide) (by decide) rfl (h tx) (hs 0)
  · exact item_led N hm (by decide) (by decide) rfl (h ty) (hs 1)
end
theorem rowcol_k {w : World} {p : Program} {loose : List Str} {mean : ExcName → Option Value} {mg mb : Str → Option Value} {fp ft c1 c2 kc : Addr} {pc qc : Value} {pd qd : Option Addr} {pf qf : FuncData} {psl qsl : Array (Option Value)} {o1 o2 ok : Obj} {n : Int} {hb : Heap} (hC : CodeHd hb 259 255) (hp : PlusSays w p loose mean mg mb n fp [(fp, ⟨pc, pd, .func pf, psl⟩), (c1, o1), (kc, ok)]) (ht : TimesSays w p loose mean mg mb n ft [(ft, ⟨qc, qd, .func qf, qsl⟩), (c2, o2), (kc, ok)])
    (rw gr ra rb : Addr) (x z a0 a1 b0 b1 k : Int) (tx tz ta0 ta1 tb0 tb1 ts : Tok) (i1 i2 i3 i4 : Nat) (hn : 0 < n ∧ n < 8192) (hx : 0 ≤ x ∧ x < n) (hz : 0 ≤ z ∧ z < n) (ha0 : 0 ≤ a0 ∧ a0 < n) (ha1 : 0 ≤ a1 ∧ a1 < n) (hb0 : 0 ≤ b0 ∧ b0 < n) (hb1 : 0 ≤ b1 ∧ b1 < n) (hk2 : 0 ≤ k ∧ k < 2) :
    SaysN 8 w p loose mean mg mb 105 ((rw, listOf [Value.int x tx, Value.int z tz].toArray i1) :: (gr, listOf [Value.ref ra, Value.ref rb].toArray i2) :: (ra, listOf [Value.int a0 ta0, Value.int a1 ta1].toArray i3) :: (rb, listOf [Value.int b0 tb0, Value.int b1 tb1].toArray i4) :: [(fp, ⟨pc, pd, .func pf, psl⟩), (c1, o1), (ft, ⟨qc, qd, .func qf, qsl⟩), (c2, o2), (kc, ok)]) True
      [.ref rw, .ref gr, .int k ts, .ref fp, .ref ft] (fun t => .int (cellV n x (pick k a0 a1) z (pick k b0 b1)) t) := by
  k_with_none
  k_with "ktr_rel" => (( (case k1 => k_asm); (case k2 => k_asm); (case k3 => k_asm); (case k4 => k_asm); (case k5 => k_asm); (case kK => first | exact rfl | assumption); (case kp => first | trivial | with_reducible assumption | ((repeat' refine And.intro ?_ ?_) <;> first | with_reducible assumption | exact And.left (by with_reducible assumption) | exact And.right (by with_reducible assumption) | decide | omega) | omega | fail "premise"); (case kd => ktr_room); (case ku => ktr_units); k_whole; intro _ _ _ _ _; (try dsimp only); (try k_fold)))
  k_with "ktr_room" => (first | (refine' roomL ?ra ?rb; (case ra => with_reducible assumption); (case rb => exact Nat.le_of_ble_eq_true rfl)) | fail "room")
  k_with "ktr_units" => (first | (refine' roomL ?ra ?rb; (case ra => with_reducible assumption); (case rb => exact Nat.le_of_ble_eq_true rfl)) | fail "room")
  k_with "k_units" => (first | exact Nat.le_of_ble_eq_true rfl | ktr_units)
  k_with "ite" => ((k_here; k_openite; first | (refine ite_pos (by (simp only [decide_eq_true_eq, beq_iff_eq, bne_iff_ne, ne_eq]; omega)) ?_; walk_say "MINE") | (refine ite_neg (by (simp only [decide_eq_true_eq, beq_iff_eq, bne_iff_ne, ne_eq]; omega)) ?_; walk_say "MINE")))
  k_with "call builtin:abs" => ((k_here; (first | refine abs_nn (by omega) ?_ | refine abs_ng (by omega) ?_); intro _ _))
  k_with "subscriptTail Subscript Name Name Name ref int" => ((k_here; (with_reducible show wpAny _ _ (subscriptTail _ _ (Value.ref _) (Value.int _ _)) _ _ _); k_dflt (refine' item_pick ?N ?m (by assumption) ?_ ?hs; (case hs => (intro k9; with_unfolding_all rfl)); (case N => k_asm); (case m => k_memK); k_whole; intro t9)))
  k_with "exec For Name Name cons nil" => ((k_here; (rename Fr _ _ _ _ => lF'); (with_unfolding_all refine' For_turns lF' ?_; k_whole)))
  k_with "call ref" => ((k_here; k_dflt (refine' PlusSays.use ?kH ?k1 ?k2 ?k3 ?k4 ?k5 ?kK ?ks ?kp ?kd ?ku ?_; (case kH => assumption); (case k1 => k_asm); (case k2 => k_asm); (case k3 => k_asm); (case k4 => k_asm); (case k5 => k_asm); (case kK => first | exact rfl | assumption); (case ks => k_allIn); (case kp => first | trivial | with_reducible assumption | ((repeat' refine And.intro ?_ ?_) <;> first | with_reducible assumption | exact And.left (by with_reducible assumption) | exact And.right (by with_reducible assumption) | decide | omega) | omega | fail "premise"); (case kd => ktr_room); (case ku => ktr_units); k_whole; intro z9 t9 h9 tk9 hz1 hz2 hz3 F9 N9; (try dsimp only); (try k_fold))))
  k_with "call ref" => ((k_here; k_dflt (refine' TimesSays.use ?kH ?k1 ?k2 ?k3 ?k4 ?k5 ?kK ?ks ?kp ?kd ?ku ?_; (case kH => assumption); (case k1 => k_asm); (case k2 => k_asm); (case k3 => k_asm); (case k4 => k_asm); (case k5 => k_asm); (case kK => first | exact rfl | assumption); (case ks => k_allIn); (case kp => first | trivial | with_reducible assumption | ((repeat' refine And.intro ?_ ?_) <;> first | with_reducible assumption | exact And.left (by with_reducible assumption) | exact And.right (by with_reducible assumption) | decide | omega) | omega | fail "premise"); (case kd => ktr_room); (case ku => ktr_units); k_whole; intro z9 t9 h9 tk9 hz1 hz2 hz3 F9 N9; (try dsimp only); (try k_fold))))
  unfold SaysN
  k_fill
  intro dp un gd cn sc a ccd cl outer A₀ base h₀ L m news s Q E B F X N T hk hsub _ hdp hun hret
  have N₁ := cb_drop N hsub
  obtain ⟨hn1, hn2⟩ := hn
  have ba := pick_bd (k := k) ha0 ha1
  have bb := pick_bd (k := k) hb0 hb1
  refine wpAny_call ?_
  k_dflt (refine' code_F (binds := [(Str.ofString "row", Value.ref rw), (Str.ofString "grid", Value.ref gr), (Str.ofString "spot", Value.int k ts), (Str.ofString "plus", Value.ref fp), (Str.ofString "times", Value.ref ft)]) ?k1 ?k2 ?k3 ?k4 ?k5 ?kA ?kF ?kK ?k6 ?k7 ?k8 ?k9 ?kB ?_ ?c2 ?c3 ?c4 ?c5; (case kA => exact rfl); (case kF => exact rfl); (case kK => assumption); (case k1 => k_asm); (case k2 => k_asm); (case k3 => k_asm); (case k4 => exact N₁); (case k5 => k_asm); (case k6 => k_is); (case k7 => k_is); (case k8 => ktr_room); (case k9 => exact BindsTo.of_eq rfl); (case c5 => decide); (case kB => exact locs rfl); (case c2 => exact rfl); (case c3 => exact rfl); (case c4 => exact rfl); k_whole; intro g' L' h' FG' F' N' B' X' T' l1 ls hkg; (try k_lt l1); (try dsimp only); (try k_lift B'); (try k_fold))
  clear F N₁ FG' B
  k_steps
  all_goals (unfold PostF Hold; intro hkp; subst_vars; exact hret _ _ _ (by k_asm) (news_back N hsub hkp (cb_drop (by k_asm) (by k_allIn))))
end
section
open PySem.Calls
theorem two_ints {f : Int → Int} {ys : List Value} (h : IntsAre ys (List.map f (rangeKs 0 ((2 : Int) - 0).toNat))) : ∃ t1 t2, ys = [Value.int (f 0) t1, Value.int (f 1) t2] := by
  have e : List.map f (rangeKs 0 ((2 : Int) - 0).toNat) = [f 0, f 1] := rfl
  rw [e] at h
  cases h with
  | cons n t r =>
    cases r with
    | cons n' t' r' =>
      cases r' with
      | nil => exact ⟨t, t', rfl⟩
theorem News.none {g h : Heap} {L : Addr} {l : List (Addr × Obj)} (N : News g L h l) {a : Addr} {o : Obj} (hm : (a, o) ∈ l) : g.get? a = Option.none := (N _ hm).2.2
theorem not_in8 {b a1 a2 a3 a4 a5 a6 a7 a8 : Addr} (h1 : a1 ≠ b) (h2 : a2 ≠ b) (h3 : a3 ≠ b) (h4 : a4 ≠ b) (h5 : a5 ≠ b) (h6 : a6 ≠ b) (h7 : a7 ≠ b) (h8 : a8 ≠ b) : b ∉ [a1, a2, a3, a4, a5, a6, a7, a8] := by
  intro h
  simp only [List.mem_cons, List.not_mem_nil, or_false] at h
  rcases h with h | h | h | h | h | h | h | h
  · exact h1 h.symm
  · exact h2 h.symm
  · exact h3 h.symm
  · exact h4 h.symm
  · exact h5 h.symm
  · exact h6 h.symm
  · exact h7 h.symm
  · exact h8 h.symm
theorem news_add {h₀ h : Heap} {L : Addr} {all add l : List (Addr × Obj)} (N : News h₀ L h all) (N' : News h₀ L h l) (hs : ∀ p ∈ add, p ∈ all) : News h₀ L h (add ++ l) := fun p hp =>
  (List.mem_append.mp hp).elim (fun h => N p (hs p h)) fun h => N' p h
theorem cellV_bd {n x y z w : Int} (hn : 0 < n) (h1 : 0 ≤ x * y) (h2 : 0 ≤ z * w) : 0 ≤ cellV n x y z w ∧ cellV n x y z w < n := by
  unfold cellV
  have e1 := tmod_nn n h1
  have e2 := tmod_nn n h2
  have e3 := tmod_nn n (show 0 ≤ 0 + Int.tmod (x * y) n by omega)
  exact ⟨tmod_nn n (by omega), tmod_lt hn⟩
theorem rowcol_use {w : World} {p : Program} {loose : List Str} {mean : ExcName → Option Value} {mg mb : Str → Option Value} {fp ft c1 c2 kc : Addr} {pc qc : Value} {pd qd : Option Addr} {pf qf : FuncData} {psl qsl : Array (Option Value)} {o1 o2 ok : Obj} {n : Int} {hb : Heap} (hC : CodeHd hb 259 255) (hp : PlusSays w p loose mean mg mb n fp [(fp, ⟨pc, pd, .func pf, psl⟩), (c1, o1), (kc, ok)]) (ht : TimesSays w p loose mean mg mb n ft [(ft, ⟨qc, qd, .func qf, qsl⟩), (c2, o2), (kc, ok)])
    {rw gr ra rb : Addr} {x z a0 a1 b0 b1 k : Int} {tx tz ta0 ta1 tb0 tb1 ts : Tok} {i1 i2 i3 i4 : Nat}
    {dp un : Nat} {gd : Option (List Code)} {cn : Str} {sc : Scope} {a : Addr} {ccd : Value} {cl : List (Str × Addr)} {outer : List Env} {A₀ : Around} {base h₀ : Heap} {L : Addr} {m : Str → Option Value} {news : List (Addr × Obj)} {s : Shared} {Q E : Value → Shared → Prop}
    (B : Below A₀ base outer h₀) (F : Fr h₀ L s.heap m) (X : Frag.In (hd.heap_39 w.params) h₀) (N : News h₀ L s.heap news) (T : Top p loose mean mg mb h₀) (hk : sc.kind = .function)
    (sub : ∀ q ∈ ((rw, listOf [Value.int x tx, Value.int z tz].toArray i1) :: (gr, listOf [Value.ref ra, Value.ref rb].toArray i2) :: (ra, listOf [Value.int a0 ta0, Value.int a1 ta1].toArray i3) :: (rb, listOf [Value.int b0 tb0, Value.int b1 tb1].toArray i4) :: [(fp, ⟨pc, pd, .func pf, psl⟩), (c1, o1), (ft, ⟨qc, qd, .func qf, qsl⟩), (c2, o2), (kc, ok)]), q ∈ news)
    (hpre : (0 < n ∧ n < 8192) ∧ (0 ≤ x ∧ x < n) ∧ (0 ≤ z ∧ z < n) ∧ (0 ≤ a0 ∧ a0 < n) ∧ (0 ≤ a1 ∧ a1 < n) ∧ (0 ≤ b0 ∧ b0 < n) ∧ (0 ≤ b1 ∧ b1 < n)) (hsp : 0 ≤ k ∧ k < 2) (hd : dp + 8 < recursionLimit) (hu : un + 64 * 8 < cLine)
    (ret : ∀ (t : Tok) (h' : Heap) (tk' : Nat), Fr h₀ L h' m → News h₀ L h' news → Q (.int (cellV n x (pick k a0 a1) z (pick k b0 b1)) t) { s with heap := h', toks := tk' }) :
      wpAny (model PySem.Challenge.rw_xm0052_01.row.prog w) (ktrTop dp un gd cn sc L a ccd cl outer) (call (.ref 105) [.ref rw, .ref gr, .int k ts, .ref fp, .ref ft]) Q E s := by
  have C := rowcol_k (w := w) (p := p) (loose := loose) (mean := mean) (mg := mg) (mb := mb) hC hp ht rw gr ra rb x z a0 a1 b0 b1 k tx tz ta0 ta1 tb0 tb1 ts i1 i2 i3 i4 hpre.1 hpre.2.1 hpre.2.2.1 hpre.2.2.2.1 hpre.2.2.2.2.1 hpre.2.2.2.2.2.1 hpre.2.2.2.2.2.2 hsp
  exact C _ _ _ _ _ _ _ _ _ _ _ _ _ _ _ _ _ _ B F X N T hk sub trivial hd hu fun t h' tk' => ret t h' tk'
theorem lt_two {k : Int} (h : k < 0 + (((2 : Int) - 0).toNat : Int)) : k < 2 := h
local macro_rules | `(tactic| k_lt $h) => `(tactic| (replace $h := ltc_of $h; dsimp only [List.map] at $h:ident))
theorem grid_says {w : World} {p : Program} {loose : List Str} {mean : ExcName → Option Value} {mg mb : Str → Option Value} {fp ft c1 c2 kc : Addr} {pc qc : Value} {pd qd : Option Addr} {pf qf : FuncData} {psl qsl : Array (Option Value)} {o1 o2 ok : Obj} {n : Int} {hb : Heap} (hC : CodeHd hb 259 255) (hp : PlusSays w p loose mean mg mb n fp [(fp, ⟨pc, pd, .func pf, psl⟩), (c1, o1), (kc, ok)]) (ht : TimesSays w p loose mean mg mb n ft [(ft, ⟨qc, qd, .func qf, qsl⟩), (c2, o2), (kc, ok)])
    {gr ra rb : Addr} {a0 a1 b0 b1 : Int} {ta0 ta1 tb0 tb1 : Tok} {i2 i3 i4 : Nat} (hn : 0 < n ∧ n < 8192) (ha0 : 0 ≤ a0 ∧ a0 < n) (ha1 : 0 ≤ a1 ∧ a1 < n) (hb0 : 0 ≤ b0 ∧ b0 < n) (hb1 : 0 ≤ b1 ∧ b1 < n)
    {dp un : Nat} {gd : Option (List Code)} {cn : Str} {sc : Scope} {a : Addr} {ccd : Value} {cl : List (Str × Addr)} {outer : List Env} {A₀ : Around} {base h₀ : Heap} {L : Addr} {m : Str → Option Value} {news : List (Addr × Obj)} {s : Shared} {Q E : Value → Shared → Prop}
    (B : Below A₀ base outer h₀) (F : Fr h₀ L s.heap m) (X : Frag.In (hd.heap_39 w.params) h₀) (N : News h₀ L s.heap news) (T : Top p loose mean mg mb h₀) (hk : sc.kind = .function)
    (hsub : ∀ q ∈ ((gr, listOf [Value.ref ra, Value.ref rb].toArray i2) :: (ra, listOf [Value.int a0 ta0, Value.int a1 ta1].toArray i3) :: (rb, listOf [Value.int b0 tb0, Value.int b1 tb1].toArray i4) :: [(fp, ⟨pc, pd, .func pf, psl⟩), (c1, o1), (ft, ⟨qc, qd, .func qf, qsl⟩), (c2, o2), (kc, ok)]), q ∈ news) (hdp : dp + 12 < recursionLimit) (hun : un + 64 * 12 < cLine)
    (hret : (∀ (g n0 n1 : Addr) (t1 t2 t3 t4 : Tok) (j1 j2 j3 : Nat) (h' : Heap) (tk' : Nat), Fr h₀ L h' m → News h₀ L h' ((g, listOf [Value.ref n0, Value.ref n1].toArray j1) :: (n0, listOf [Value.int (cellV n a0 a0 a1 b0) t1, Value.int (cellV n a0 a1 a1 b1) t2].toArray j2) :: (n1, listOf [Value.int (cellV n b0 a0 b1 b0) t3, Value.int (cellV n b0 a1 b1 b1) t4].toArray j3) :: news) → Fresh news g → Fresh news n0 → Fresh news n1 → Q (.ref g) { s with heap := h', toks := tk' })) :
      wpAny (model PySem.Challenge.rw_xm0052_01.row.prog w) (ktrTop dp un gd cn sc L a ccd cl outer) (call (.ref 98) [.ref gr, .ref gr, .ref fp, .ref ft]) Q E s := by
  k_with_none
  k_with "ktr_rel" => (( (case k1 => k_asm); (case k2 => k_asm); (case k3 => k_asm); (case k4 => k_asm); (case k5 => k_asm); (case kK => first | exact rfl | assumption); (case kp => first | trivial | with_reducible assumption | ((repeat' refine And.intro ?_ ?_) <;> first | with_reducible assumption | exact And.left (by with_reducible assumption) | exact And.right (by with_reducible assumption) | decide | omega) | omega | fail "premise"); (case kd => ktr_room); (case ku => ktr_units); k_whole; intro _ _ _ _ _; (try dsimp only); (try k_fold)))
  k_with "ktr_room" => (first | (refine' roomL ?ra ?rb; (case ra => with_reducible assumption); (case rb => exact Nat.le_of_ble_eq_true rfl)) | fail "room")
  k_with "ktr_units" => (first | (refine' roomL ?ra ?rb; (case ra => with_reducible assumption); (case rb => exact Nat.le_of_ble_eq_true rfl)) | fail "room")
  k_with "k_units" => (first | exact Nat.le_of_ble_eq_true rfl | ktr_units)
  k_with "k_ne" => (first | exact Nat.ne_of_lt (ltc_mem (by assumption) _ (by k_memK)) | exact Nat.ne_of_gt (ltc_mem (by assumption) _ (by k_memK)) | (refine neN ?_; (try dsimp only); omega; walk_say "SLOWN") | fail "k_ne")
  k_with "k_all" => (first | exact List.forall_mem_nil _ | (refine ltc_all rfl ?_; assumption) | (refine nec_all rfl ?_; assumption) | (walk_say "SLOW"; refine' List.forall_mem_cons.mpr ⟨?a, ?b⟩; (case a => k_ne); (case b => k_all)) | fail "k_all")
  k_with "k_upd" => (first | (refine' Upd.head ?a; (case a => k_all)) | (refine' upd_ltm ?b (by assumption) ?m; (case m => k_memK); (case b => k_upd)) | (refine' upd_nem ?b (by assumption) ?m; (case m => k_memK); (case b => k_upd)) | (walk_say "SLOWU"; refine' Upd.tail ?a ?b; (case a => k_ne); (case b => k_upd)) | fail "k_upd")
  k_with "k_updF" => (first | (refine' UpdF.head ?a; (case a => k_all)) | (refine' updF_ltm ?b (by assumption) ?m; (case m => k_memK); (case b => k_updF)) | (refine' updF_nem ?b (by assumption) ?m; (case m => k_memK); (case b => k_updF)) | (walk_say "SLOWF"; refine' UpdF.tail ?a ?b; (case a => k_ne); (case b => k_updF)) | fail "k_updF")
  k_with "CompSrc" => ((k_here; kcf_src; k_dflt (refine LCg.CompSrc.range (by rfl) (by k_asm) (by k_asm) (by assumption) (by first | exact small_one (by kcf_bnd) (by kcf_bnd) (by kcf_bnd) (by kcf_bnd) | decide) (by first | exact rangeSize_nat _ _ | rfl) (by first | exact Nat.le_of_ble_eq_true rfl | size_fits) ?_; intro gC; (refine' kcf_range _ (fun k' t' I' oI' C' oC' D' m' ys' h' tk' E' hlo' hhi' hC' hx' F' N' off' ne' hMark' => ?_) ?_); kcf_last)))
  k_with "FinE" => (((unfold LCg.FinE); intro D' h' tk' F' N' o1'; (replace o1' := nec_of o1'; dsimp only [List.map] at o1'; replace o1' := nec_tail o1'); (try simp only [List.nil_append, List.cons_append] at N'); (replace N' := news_drop1 N'); (try dsimp only)))
  k_with "exec For Name Name cons nil" => ((k_here; (rename News _ _ _ _ => nF'); (replace nF' := news_drop2 nF'); (rename LtC _ _ => lL'); (replace lL' := ltc_tail (ltc_tail lL')); (rename Fr _ _ _ _ => lF'); (with_unfolding_all refine' For_turns lF' ?_; k_whole)))
  k_with "call ref" => ((k_here; k_dflt (refine' rowcol_use ?kC ?kH ?kI ?k1 ?k2 ?k3 ?k4 ?k5 ?kK ?ks ?kp ?kq ?kd ?ku ?_; (case kC => assumption); (case kH => assumption); (case kI => assumption); (case k1 => k_asm); (case k2 => k_asm); (case k3 => k_asm); (case k4 => k_asm); (case k5 => k_asm); (case kK => first | exact rfl | assumption); (case ks => k_allIn); (case kp => (refine ⟨?_, ?_, ?_, ?_, ?_, ?_, ?_⟩ <;> assumption)); (case kq => exact ⟨by assumption, lt_two (by assumption)⟩); (case kd => ktr_room); (case ku => ktr_units); k_whole; intro t9 h9 tk9 F9 N9; (try dsimp only); (try k_fold))))
  revert X
  k_fill
  intro X
  have N₁ := cb_drop N hsub
  refine wpAny_call ?_
  k_dflt (refine' code_FC ?k1 ?k2 ?k3 ?k4 ?k5 ?kA ?kF ?kK ?k6 ?k7 ?k8 ?k9 ?kB ?kD ?_ ?c2 ?c3 ?c4; (case kA => exact rfl); (case kF => exact rfl); (case kK => assumption); (case k1 => k_asm); (case k2 => k_asm); (case k3 => k_asm); (case k4 => exact N₁); (case k5 => k_asm); (case k6 => k_is); (case k7 => k_is); (case k8 => ktr_room); (case k9 => exact BindsTo.of_eq rfl); (case kB => exact rfl); (case kD => decide +kernel); (case c2 => exact rfl); (case c3 => exact rfl); (case c4 => exact rfl); k_whole; intro g' L' h' tk' cells' FG' F' N' Y' B' X' T' l1 ls hkg; (try k_lt l1); k_cells Y'; (try simp only [List.cons_append, List.nil_append] at N'); (try dsimp only); (try k_lift B'); (try k_fold))
  rename_i ob1 ob2 ob3 ob4 dd1 dd2 dd3 dd4
  change ob1.data = .cell none at dd1
  change ob2.data = .cell (some (.ref ft)) at dd2
  change ob3.data = .cell (some (.ref fp)) at dd3
  change ob4.data = .cell (some (.ref gr)) at dd4
  have l4 : LtC [L' + 1 + 1 + 1, L' + 1 + 1, L' + 1, gr, ra, rb, fp, c1, ft, c2, kc] (L' + 1 + 1 + 1 + 1) := ltc_cons (Nat.lt_succ_self _) (ltc_cons (Nat.lt_succ_of_lt (Nat.lt_succ_self _)) (ltc_cons (Nat.lt_succ_of_lt (Nat.lt_succ_of_lt (Nat.lt_succ_self _))) (ltc_up (d := L') (Nat.lt_succ_of_lt (Nat.lt_succ_of_lt (Nat.lt_succ_of_lt (Nat.lt_succ_self _)))) l1)))
  clear F N₁ FG' B
  k_steps
  rename LtC [_, _, _, _, gr, _, _, _, _, _, _, _] _ => Lf
  rename NeC [_, _, _, _, _, _, gr, _, _, _, _, _, _, _] _ => f1
  rename NeC [_, _, _, _, _, _, _, gr, _, _, _, _, _, _, _] _ => f2
  rename IntsAre _ (List.map (fun k => cellV n a0 _ _ _) _) => e1
  rename IntsAre _ (List.map (fun k => cellV n b0 _ _ _) _) => e2
  rename News g' L' _ _ => NN
  rename Fr h₀ L _ m => kF
  rename News h₀ L _ _ => kN
  unfold PostF Hold
  intro hkp
  obtain ⟨u1, u2, rfl⟩ := two_ints e1
  obtain ⟨u3, u4, rfl⟩ := two_ints e2
  have n1 := fresh_of N hkg (News.none NN (by k_memK)) (not_lt_in Lf (by intro p hp; repeat (first | exact hp | apply List.Mem.tail)))
  have n2 := fresh_of N hkg (News.none NN (by k_memK)) (not_ne_in f1 (by intro p hp; repeat (first | exact hp | apply List.Mem.tail)))
  have n3 := fresh_of N hkg (News.none NN (by k_memK)) (not_ne_in f2 (by intro p hp; repeat (first | exact hp | apply List.Mem.tail)))
  have back := news_back N hsub hkp (cb_drop kN (by k_allIn))
  exact hret _ _ _ u1 u2 u3 u4 _ _ _ _ _ kF (news_add (add := [_, _, _]) kN back (by k_allIn)) n1 n2 n3
end
section
open PySem.Calls
/-- the lambdas' code objects: not made yet, or made -/
noncomputable def lamQ : Str := ((Str.ofString "_law_right" ++ (".<locals>." : Str)) ++ ("<lambda>" : Str))
def Tab (T : Array Value) (cs : List (Addr × Obj)) : Prop := (T = #[] ∧ cs = []) ∨
  ∃ (c1 c2 : Addr) (o1 o2 : Obj) (vs1 vs2 : Array Value) (t1 t2 : Tok), T = #[rawInt 187, rawInt 0, .ref c1, rawInt 188, rawInt 0, .ref c2] ∧ cs = [(c1, o1), (c2, o2)] ∧
    o1.data = .fields vs1 ∧ vs1[1]? = some (.str lamQ t1) ∧ o2.data = .fields vs2 ∧ vs2[1]? = some (.str lamQ t2)
/-- the first is made (and the second, it may be) -/
def Tab1 (T : Array Value) (cs : List (Addr × Obj)) (f c1 : Addr) : Prop := (T = #[rawInt 187, rawInt 0, .ref c1] ∧ cs = [] ∧ @LT.lt Nat _ 255 c1 ∧ @LT.lt Nat _ 255 f) ∨
  ∃ (c2 : Addr) (o2 : Obj) (vs2 : Array Value) (t2 : Tok), T = #[rawInt 187, rawInt 0, .ref c1, rawInt 188, rawInt 0, .ref c2] ∧ cs = [(c2, o2)] ∧ o2.data = .fields vs2 ∧ vs2[1]? = some (.str lamQ t2)
theorem news_sub {h₀ h : Heap} {L : Addr} {news small : List (Addr × Obj)} (N : News h₀ L h news) (sub : ∀ p ∈ small, p ∈ news) : News h₀ L h small := fun p hp => N p (sub p hp)
section
variable {M : Model} {A : Around} {E : Value → Shared → Prop} {s : Shared} {h₀ : Heap} {L a I : Addr} {m mg mb : Str → Option Value} {cn : Str} {sc : Scope} {ccd : Value} {cl : List (Str × Addr)} {R cs : List (Addr × Obj)}
  {p : Program} {loose : List Str} {mean : ExcName → Option Value} {name : Str} {params : Arguments} {body : PySem.Expr} {scope : Scope} {T : Array Value} {pos : Pos} {firstLine : Nat} {clos : List (Str × Addr)}
theorem lam_one {Q : Value → Shared → Prop} (F : Fr h₀ L s.heap m) (N : News h₀ L s.heap ((255, tabObj T) :: (R ++ cs))) (hT : Tab T cs) (hoff : ∀ q ∈ R, q.1 ≠ 255) (hI : ∀ q ∈ cs, @Ne Nat q.1 I) (hIR : ∃ o, (I, o) ∈ R) (Tp : Top p loose mean mg mb h₀) (C : CodeHd h₀ 259 255) (hcd : ccd = .ref 259)
    (hl : pos.line = 187) (hc : pos.col = 0) (hcl : closureFor scope (envX cn sc L a ccd cl) = pure clos)
    (h : ∀ f c1 o1 vs t ctv T' cs' h' tk, Fr h₀ L h' m → News h₀ L h' ((f, kla_obj name lamQ params body scope clos ((mg "__name__").getD .none) c1 ctv) :: (c1, o1) :: (255, tabObj T') :: (R ++ cs')) →
      o1.data = .fields vs → vs[1]? = some (.str lamQ t) → Tab1 T' cs' f c1 → @Ne Nat c1 I → (∀ q ∈ cs', @Ne Nat q.1 I) → Q (.ref f) { s with heap := h', toks := tk }) :
    wpAny M A (makeFunction name lamQ params (.expr body) scope (envX cn sc L a ccd cl) [] [] [] pos firstLine) Q E s := by
  cases pos
  dsimp only at hl hc
  subst hl
  subst hc
  obtain ⟨oI, hIR⟩ := hIR
  rcases hT with ⟨rfl, rfl⟩ | ⟨c1, c2, o1, o2, vs1, vs2, t1, t2, rfl, rfl, d1, v1, d2, v2⟩
  · refine kla_nest F N Tp C hcd (UpdF.head (by simpa using hoff)) (by kn_triples) (by kn_among) hcl fun f c' oc vs t ctv h' tk F' N' d v hlt hlf => ?_
    have h2 : @LT.lt Nat _ 255 c' := hlt _ (.head _)
    exact h f c' oc vs t ctv _ [] h' tk F' N' d v (.inl ⟨rfl, rfl, h2, Nat.lt_trans h2 hlf⟩) (Nat.ne_of_gt (hlt (I, oI) (.tail _ (List.mem_append.mpr (.inl hIR))))) (fun _ h => nomatch h)
  · refine kla_hit (c' := c1) F N Tp C hcd (.head _) (by kn_triples) (by kn_hit) hcl fun f ctv h' tk F' N' hlt => ?_
    refine h f c1 o1 vs1 t1 ctv _ [(c2, o2)] h' tk F' (news_sub N' fun q hq => ?_) d1 v1 (.inr ⟨c2, o2, vs2, t2, rfl, rfl, d2, v2⟩) (hI _ (.head _)) (fun q hq => hI q (.tail _ hq))
    simp only [List.mem_cons, List.mem_append, List.not_mem_nil, or_false] at hq ⊢
    rcases hq with h | h | h | h | h
    · exact .inl h
    · exact .inr (.inr (.inr (.inl h)))
    · exact .inr (.inl h)
    · exact .inr (.inr (.inl h))
    · exact .inr (.inr (.inr (.inr h)))
theorem lam_two {Q : Value → Shared → Prop} {f c1 : Addr} {k1 o1 : Obj} (F : Fr h₀ L s.heap m) (N : News h₀ L s.heap ((f, k1) :: (c1, o1) :: (255, tabObj T) :: (R ++ cs))) (hT : Tab1 T cs f c1) (hoff : ∀ q ∈ R, q.1 ≠ 255) (hI : ∀ q ∈ cs, @Ne Nat q.1 I) (hIR : ∃ o, (I, o) ∈ R) (Tp : Top p loose mean mg mb h₀) (C : CodeHd h₀ 259 255) (hcd : ccd = .ref 259)
    (hl : pos.line = 188) (hc : pos.col = 0) (hcl : closureFor scope (envX cn sc L a ccd cl) = pure clos)
    (h : ∀ f2 c2 o2 vs t ctv h' tk, Fr h₀ L h' m → News h₀ L h' ((f2, kla_obj name lamQ params body scope clos ((mg "__name__").getD .none) c2 ctv) :: (c2, o2) :: (f, k1) :: (c1, o1) :: (255, tabObj #[rawInt 187, rawInt 0, .ref c1, rawInt 188, rawInt 0, .ref c2]) :: R) →
      o2.data = .fields vs → vs[1]? = some (.str lamQ t) → @Ne Nat c2 I → Q (.ref f2) { s with heap := h', toks := tk }) :
    wpAny M A (makeFunction name lamQ params (.expr body) scope (envX cn sc L a ccd cl) [] [] [] pos firstLine) Q E s := by
  cases pos
  dsimp only at hl hc
  subst hl
  subst hc
  obtain ⟨oI, hIR⟩ := hIR
  rcases hT with ⟨rfl, rfl, h1, h2⟩ | ⟨c2, o2, vs2, t2, rfl, rfl, d2, v2⟩
  · refine kla_nest F N Tp C hcd (UpdF.tail (Nat.ne_of_gt h2) (UpdF.tail (Nat.ne_of_gt h1) (UpdF.head (by simpa using hoff)))) (by kn_triples) (by kn_among) hcl fun f2 c' oc vs t ctv h' tk F' N' d v hlt hlf => ?_
    refine h f2 c' oc vs t ctv h' tk F' (news_sub N' fun q hq => ?_) d v (Nat.ne_of_gt (hlt (I, oI) (.tail _ (.tail _ (.tail _ (List.mem_append.mpr (.inl hIR)))))))
    simpa using hq
  · refine kla_hit (c' := c2) F N Tp C hcd (.tail _ (.tail _ (.head _))) (by kn_triples) (by kn_hit) hcl fun f2 ctv h' tk F' N' hlt => ?_
    refine h f2 c2 o2 vs2 t2 ctv h' tk F' (news_sub N' fun q hq => ?_) d2 v2 (hI _ (.head _))
    simp only [List.mem_cons, List.mem_append, List.not_mem_nil, or_false] at hq ⊢
    rcases hq with h | h | h | h | h | h
    · exact .inl h
    · exact .inr (.inr (.inr (.inr (.inr h))))
    · exact .inr (.inl h)
    · exact .inr (.inr (.inl h))
    · exact .inr (.inr (.inr (.inl h)))
    · exact .inr (.inr (.inr (.inr (.inl h))))
end
section
variable {prog : Program} {w : World} {A : Around} {E : Value → Shared → Prop} {s : Shared} {env : Env} {h₀ : Heap} {x : Str} {body : List Stmt} {Q : Flow → Shared → Prop}
/-- a turn's post: no return, no break; its end laid aside -/
def PostH (h₀ : Heap) (L : Addr) (J : (Str → Option Value) → List (Addr × Obj) → Prop) (own : List (Addr × Obj)) (s₁ : Shared) (f : Flow) (s₂ : Shared) : Prop :=
  match f with
  | .ret _ => False
  | .brk => False
  | _ => Hold (InvEndG h₀ L J own s₁ s₂)
theorem range_turns0 {r : Addr} {a₀ b₀ : Int} {t₀ u₀ v₀ : Tok} {n : Nat} {m₀ : Str → Option Value} {news nx₀ : List (Addr × Obj)} (J : Nat → (Str → Option Value) → List (Addr × Obj) → Prop)
    (hh : A.handled = none) (hr : IsRange s.heap r a₀ b₀ 1 t₀ u₀ v₀) (hsmall : Builtin.Range.small a₀ b₀ 1 = true) (hsz : Builtin.Range.rangeSize a₀ b₀ 1 = (n : Int))
    (F : Fr h₀ env.locals s.heap m₀) (N : News h₀ env.locals s.heap news) (hn : ∀ p ∈ nx₀, p ∈ news) (hj : J 0 m₀ nx₀)
    (turn : ∀ (i : Nat) (t : Tok) (m₁ : Str → Option Value) (nx : List (Addr × Obj)) (s₁ : Shared) (I : Addr) (oI : Obj), i < n → (∀ p ∈ nx, p.1 ≠ I) → @LT.lt Nat _ env.locals I → J i m₁ nx →
      Fr h₀ env.locals s₁.heap (fun y => if y = x then some (.int (a₀ + (i : Int)) t) else m₁ y) → News h₀ env.locals s₁.heap ((I, oI) :: nx) →
      wpAny (model prog w) A (execs body env) (PostH h₀ env.locals (J (i + 1)) [(I, oI)] s₁) (fun _ _ => False) s₁)
    (done : ∀ (m₁ : Str → Option Value) (nx : List (Addr × Obj)) (h : Heap) (tk : Nat), J n m₁ nx → Fr h₀ env.locals h m₁ → News h₀ env.locals h nx → Q .next { s with heap := h, toks := tk }) :
    wpAny (model prog w) A (pyIter (.ref r)) (fun it s₂ => LoopAtV prog w A h₀ env x body Q E it s₂) E s :=
  range_turns J hh hr hsmall hsz F N hn hj (fun i t m₁ nx h tk I oI hi ho hL hJ F₁ N₁ => wpAny_mono (turn i t m₁ nx { s with heap := h, toks := tk } I oI hi ho hL hJ F₁ N₁) (fun f _ x => by
    cases f with
    | next => exact x
    | cont => exact x
    | brk => exact False.elim x
    | ret v => exact False.elim x) fun _ _ e => False.elim e) done
end
end
section
open PySem.Calls
/-- the loop's state: the row's number, the grid -/
def InvS (L : Addr) (oc : Obj) (rest : List (Addr × Obj)) (S : St) (m : Str → Option Value) (nx : List (Addr × Obj)) : Prop :=
  ∃ (u : Str → Option Value) (T : Array Value) (cs : List (Addr × Obj)) (g r0 r1 : Addr) (th ta tb tc td : Tok) (i j l : Nat), Tab T cs ∧ Fresh [(255, tabObj T)] g ∧ Fresh [(255, tabObj T)] r0 ∧ Fresh [(255, tabObj T)] r1 ∧
    m = (fun y => if y = Str.ofString "here" then some (.int S.h th) else if y = Str.ofString "grid" then some (.ref g) else u y) ∧
    nx = (255, tabObj T) :: (L + 1, oc) :: (g, listOf [Value.ref r0, Value.ref r1].toArray i) :: (r0, listOf [Value.int S.a ta, Value.int S.b tb].toArray j) :: (r1, listOf [Value.int S.c tc, Value.int S.d td].toArray l) :: (rest ++ cs)
theorem fresh_lt {a b : Addr} {o : Obj} (h : @LT.lt Nat _ a b) : Fresh [(a, o)] b := fun q hq => by
  rw [List.mem_singleton.mp hq]; exact Nat.ne_of_lt h
theorem Fresh.one {l : List (Addr × Obj)} {a b : Addr} {o o' : Obj} (h : Fresh l b) (hm : (a, o) ∈ l) : Fresh [(a, o')] b := fun q hq => by
  rw [List.mem_singleton.mp hq]; exact h.ne hm
theorem allLt_ne {d b : Addr} : ∀ {l : List (Addr × Obj)}, AllLt d l → @LE.le Nat _ d b → ∀ p ∈ l, p.1 ≠ b
  | [], _, _ => fun _ h => (nomatch h)
  | q :: l, h, hb => fun p hp => by
    rcases List.mem_cons.mp hp with e | hp
    · subst e; exact Nat.ne_of_lt (Nat.lt_of_lt_of_le h.1 hb)
    · exact allLt_ne h.2 hb p hp
theorem own_off {I : Addr} {oI : Obj} {nx : List (Addr × Obj)} (h : ∀ q ∈ nx, @Ne Nat q.1 I) : OwnOff [(I, oI)] (nx.map (·.1)) := by
  intro p hp b hb
  obtain ⟨q, hq, rfl⟩ := List.mem_map.mp hb
  rw [List.mem_singleton.mp hp]
  exact (h q hq).symm
theorem news_swap {h₀ h : Heap} {L : Addr} {a b : Addr × Obj} {r : List (Addr × Obj)} (N : News h₀ L h (a :: b :: r)) : News h₀ L h (b :: a :: r) := fun p hp => N p (by
  rcases List.mem_cons.mp hp with rfl | hp
  · exact .tail _ (.head _)
  · rcases List.mem_cons.mp hp with rfl | hp
    · exact .head _
    · exact .tail _ (.tail _ hp))
theorem mulOk64 {a b n : Int} (h : 0 ≤ b ∧ b < n) (hn : n < 8192) : IntMulOk a b := IntMulOk.of_right (intBits_le_64 (by omega) (by omega))
theorem right_says {w : World} {p : Program} {loose : List Str} {mean : ExcName → Option Value} {mg mb : Str → Option Value} {e n : Int} {b : Bool} (ok : Ok e n b) (tx : Tok) (T : Array Value) (cs : List (Addr × Obj)) (hT : Tab T cs) (q1 q2 q3 : Addr) (p1 p2 p3 : Obj) :
  ∀ (dp un : Nat) (gd : Option (List Code)) (cn : Str) (sc : Scope) (a : Addr) (ccd : Value) (cl : List (Str × Addr)) (outer : List Env) (A₀ : Around) (base h₀ : Heap) (L : Addr) (m : Str → Option Value) (s : Shared) (Q E : Value → Shared → Prop),
    Below A₀ base outer h₀ → Fr h₀ L s.heap m → Frag.In (hd.heap_39 w.params) h₀ → News h₀ L s.heap ((255, tabObj T) :: ([(q1, p1), (q2, p2), (q3, p3)] ++ cs)) → Top p loose mean mg mb h₀ → CodeHd base 259 255 → (@LT.lt Nat _ 255 q1 ∧ @LT.lt Nat _ 255 q2 ∧ @LT.lt Nat _ 255 q3) → sc.kind = .function →
    dp + 20 < recursionLimit → un + 64 * 20 < cLine → (∀ (h' : Heap) (tk' : Nat) T' cs', Tab T' cs' → Fr h₀ L h' m → News h₀ L h' ((255, tabObj T') :: ([(q1, p1), (q2, p2), (q3, p3)] ++ cs')) → Q (.bool true) { s with heap := h', toks := tk' }) →
      wpAny (model PySem.Challenge.rw_xm0052_01.row.prog w) (ktrTop dp un gd cn sc L a ccd cl outer) (call (.ref 260) [.int e tx]) Q E s := by
  k_with_none
  k_with "ktr_rel" => (( (case k1 => k_asm); (case k2 => k_asm); (case k3 => k_asm); (case k4 => k_asm); (case k5 => k_asm); (case kK => first | exact rfl | assumption); (case kp => first | trivial | with_reducible assumption | ((repeat' refine And.intro ?_ ?_) <;> first | with_reducible assumption | exact And.left (by with_reducible assumption) | exact And.right (by with_reducible assumption) | decide | omega) | omega | fail "premise"); (case kd => ktr_room); (case ku => ktr_units); k_whole; intro _ _ _ _ _; (try dsimp only); (try k_fold)))
  k_with "ktr_room" => (first | (refine' roomL ?ra ?rb; (case ra => with_reducible assumption); (case rb => exact Nat.le_of_ble_eq_true rfl)) | fail "room")
  k_with "ktr_units" => (first | (refine' roomL ?ra ?rb; (case ra => with_reducible assumption); (case rb => exact Nat.le_of_ble_eq_true rfl)) | fail "room")
  k_with "k_units" => (first | exact Nat.le_of_ble_eq_true rfl | ktr_units)
  k_with "subscriptTail" => ((k_here; (with_reducible show wpAny _ _ (subscriptTail _ _ (Value.ref _) (Value.int _ _)) _ _ _); k_dflt (refine' item_led ?N ?m ?a ?b ?c ?_ ?hs; (case hs => with_unfolding_all rfl); (case N => k_asm); (case m => k_memK); (case a => decide); (case b => decide); (case c => rfl); k_whole)))
  k_with "subscriptTail Name Constant ref int" => ((k_here; (with_reducible show wpAny _ _ (subscriptTail _ _ (Value.ref _) (Value.int _ _)) _ _ _); k_dflt (refine' item_led ?N ?m ?a ?b ?c ?_ ?hs; (case hs => with_unfolding_all rfl); (case N => k_asm); (case m => k_memK); (case a => decide); (case b => decide); (case c => rfl); k_whole)))
  k_with "subscriptTail Subscript Name Constant Constant ref int" => ((k_here; (with_reducible show wpAny _ _ (subscriptTail _ _ (Value.ref _) (Value.int _ _)) _ _ _); k_dflt (refine' item_led ?N ?m ?a ?b ?c ?_ ?hs; (case hs => with_unfolding_all rfl); (case N => k_asm); (case m => k_memK); (case a => decide); (case b => decide); (case c => rfl); k_whole)))
  k_with "subscriptTail Subscript" => ((k_here; (with_reducible show wpAny _ _ (subscriptTail _ _ (Value.ref _) (Value.int _ _)) _ _ _); k_dflt (refine' item_led ?N ?m ?a ?b ?c ?_ ?hs; (case hs => with_unfolding_all rfl); (case N => k_asm); (case m => k_memK); (case a => decide); (case b => decide); (case c => rfl); k_whole)))
  k_with "binaryOp Mod int int" => ((k_here; (with_reducible refine mod_int' (by assumption) ?_)))
  k_with "k_all" => (exact allLt_ne (And.right (by assumption)) (by first | omega | (dsimp only; omega)))
  k_with "PostH" => ((dsimp only [PostH]))
  k_with "execs nil" => ((with_reducible refine wpAny_execs_nil ?_))
  k_with "k_ne" => ((refine neN ?_; (try dsimp only); first | exact Fresh.ne (by assumption) (by k_memK) | exact Fresh.ne' (by assumption) (by k_memK)))
  k_with "exec For Name Call cons nil" => ((k_here; (rename Fr _ _ _ _ => lF'); (with_unfolding_all refine' For_invVF lF' ?k1 ?k2 ?_; (case k1 => exact rfl); (case k2 => exact rfl); k_whole)))
  k_with "pyIter ref" => (((with_reducible show wpAny _ _ (pyIter (Value.ref _)) (fun it s₂ => LoopAtV _ _ _ _ _ (Str.ofString "turn") _ _ _ it s₂) _ _); refine Hold.of ?_))
  k_with "call ref" => (((with_reducible show wpAny _ _ (call (Value.ref 98) _) _ _ _); refine Hold.of ?_))
  k_with "eval Lambda" => ((k_here; k_dflt (refine' kla_eval ?d0 ?_; (case d0 => exact rfl)); refine Hold.of ?_))
  k_with "call ref" => ((k_here; k_dflt (refine' Says.use (pow_says (by assumption) _ _ _ _ _) ?k1 ?k2 ?k3 ?k4 ?k5 ?kK ?kp ?kd ?ku ?_; ktr_rel)))
  k_with "call ref" => ((k_here; k_dflt (refine' Says.use (less_says (by assumption) _ _ _ _ _) ?k1 ?k2 ?k3 ?k4 ?k5 ?kK ?kp ?kd ?ku ?_; ktr_rel)))
  k_with "call ref" => ((k_here; k_dflt (refine' Says.use (prime_says (by assumption) _) ?k1 ?k2 ?k3 ?k4 ?k5 ?kK ?kp ?kd ?ku ?_; ktr_rel)))
  k_with "call ref" => ((k_here; k_dflt (refine' Says.use (reck_mul _ _ _ _ _ _ _) ?k1 ?k2 ?k3 ?k4 ?k5 ?kK ?kp ?kd ?ku ?_; ktr_rel)))
  k_with "call ref" => ((k_here; k_dflt (refine' Says.use (rest_sub _ _ _ _ _ _ _) ?k1 ?k2 ?k3 ?k4 ?k5 ?kK ?kp ?kd ?ku ?_; ktr_rel)))
  k_with "call ref" => ((k_here; k_dflt (refine' Says.use (rest_add _ _ _ _ _ _ _) ?k1 ?k2 ?k3 ?k4 ?k5 ?kK ?kp ?kd ?ku ?_; ktr_rel)))
  k_with "call ref" => ((k_here; k_dflt (refine' Says.use (rest_mul _ _ _ _ _ _ _) ?k1 ?k2 ?k3 ?k4 ?k5 ?kK ?kp ?kd ?ku ?_; ktr_rel)))
  have hbd := ok.n_bd
  · k_fill
    intro dp un gd cn sc a ccd cl outer A₀ base h₀ L m s Q E B F X N Tp C hq hk hdp hun hret
    obtain ⟨hq1, hq2, hq3⟩ := hq
    refine wpAny_call ?_
    k_dflt (refine' code_defC ?k1 ?k2 ?k3 ?k4 ?k5 ?kA ?kF ?kK ?k6 ?k7 ?k8 ?k9 ?kB ?kD ?_ ?c2 ?c3 ?c4; (case kA => exact rfl); (case kF => exact rfl); (case kK => assumption); (case k1 => k_asm); (case k2 => k_asm); (case k3 => k_asm); (case k4 => k_asm); (case k5 => k_asm); (case k6 => k_is); (case k7 => k_is); (case k8 => k_room); (case k9 => exact BindsTo.of_eq rfl); (case kB => exact rfl); (case kD => decide +kernel); (case c2 => exact rfl); (case c3 => exact rfl); (case c4 => exact rfl); k_whole; intro g' L' h' tk' cells' FG' F' N' Y' B' X' T' l1; (try k_lt l1); k_cells Y'; (try simp only [List.cons_append, List.nil_append] at N'); (try dsimp only); (try k_lift B'); (try k_fold))
    k_steps
    rename_i tk9 hq9 oc hoc lr0 hx1 L1 lr1 hx2 L2 lg hx3 L3 lt hx4 L4 hx5 hx6 hx7 FF0 NN0 hx8 tk2 u1 u2 u3 IR FF NN hk9
    unfold Hold
    refine' range_turns0 (fun k => InvS L' oc [(q1, p1), (q2, p2), (q3, p3)] (itS n k)) rfl IR (small_one (by omega) (by omega) (by omega) (by omega)) (rangeSize_nat _ _) FF NN ?hn ?hj ?turn ?done
    case hj =>
      show InvS _ _ _ _ _ _
      unfold InvS
      exact ⟨_, T, cs, lg, lr0, lr1, tk9, tk9 + 1, tk9 + 1 + 1, tk9 + 1 + 1 + 1, tk9 + 1 + 1 + 1 + 1, 0, 0, 0, hT, fresh_lt (by omega), fresh_lt (by omega), fresh_lt (by omega), rfl, rfl⟩
    case hn =>
      refine List.forall_mem_cons.mpr ⟨by k_memK, ?_⟩
      refine List.forall_mem_cons.mpr ⟨by k_memK, ?_⟩
      refine List.forall_mem_cons.mpr ⟨by k_memK, ?_⟩
      refine List.forall_mem_cons.mpr ⟨by k_memK, ?_⟩
      refine List.forall_mem_cons.mpr ⟨by k_memK, ?_⟩
      intro p hp
      repeat (first | exact hp | apply List.Mem.tail)
    case turn =>
      clear FF0 NN0 IR FF NN hk9 L1 L2 L3 L4 F N FG'
      intro i t m₁ nx s₁ I oI hi hoff hLI hJ F₁ N₁
      have hgo := good_out (good_at ok (k := i) (by rwa [Int.sub_zero] at hi))
      change wpAny _ _ _ (PostH _ _ (InvS L' oc [(q1, p1), (q2, p2), (q3, p3)] (stp n (itS n i))) _ _) _ _
      obtain ⟨u, T, cs, g, r0, r1, th, ta, tb, tc, td, i0, j0, k0, hTab, fg, f0, f1, rfl, rfl⟩ := hJ
      generalize itS n i = S at *
      obtain ⟨vh, va, vb, vc, vd⟩ := S
      obtain ⟨⟨gb1, gb2, gb3, gb4, gb5, gb6, gb7, gb8, gb9, gb10⟩, gt1, gt2⟩ := hgo
      dsimp only at gb1 gb2 gb3 gb4 gb5 gb6 gb7 gb8 gb9 gb10 F₁ N₁
      change @LT.lt Nat _ L' I at hLI
      change Fr g' L' s₁.heap _ at F₁
      change News g' L' s₁.heap _ at N₁
      have hb4 := hbd.2.2.2
      have hb0 : 0 < n := Int.lt_of_lt_of_le (by decide) hbd.2.2.1
      have hv8 : vh < 8192 := Int.lt_trans gb2 hb4
      have hhh := mul_bd (x := vh) (y := vh) gb1 hv8 gb1 hv8
      have hh1 := fitI gb1 hv8
      have hh2 := fitM hhh
      have hh7 : vh * vh < 70000000 := Int.lt_of_le_of_lt hhh.2 (by decide)
      have frI : Fresh _ I := hoff
      clear hoff
      have gt1' : (Int.fmod (cellV n va va vb vc + cellV n vc vb vd vd - Int.tmod (vh * vh - 2) n) n != 0) = false := by
        have q : Int.fmod (cellV n va va vb vc + cellV n vc vb vd vd - Int.tmod (vh * vh - 2) n) n = 0 := gt1
        rw [q]; rfl
      have gt2' : (Int.fmod (cellV n va va vb vc * cellV n vc vb vd vd - cellV n va vb vb vd * cellV n vc va vd vc - 1) n != 0) = false := by
        have q : Int.fmod (cellV n va va vb vc * cellV n vc vb vd vd - cellV n va vb vb vd * cellV n vc va vd vc - 1) n = 0 := gt2
        rw [q]; rfl
      have cb1 := cellV_bd (n := n) (x := va) (y := va) (z := vb) (w := vc) hb0 (Int.mul_nonneg gb3 gb3) (Int.mul_nonneg gb5 gb7)
      have cb2 := cellV_bd (n := n) (x := va) (y := vb) (z := vb) (w := vd) hb0 (Int.mul_nonneg gb3 gb5) (Int.mul_nonneg gb5 gb9)
      have cb3 := cellV_bd (n := n) (x := vc) (y := va) (z := vd) (w := vc) hb0 (Int.mul_nonneg gb7 gb3) (Int.mul_nonneg gb9 gb7)
      have cb4 := cellV_bd (n := n) (x := vc) (y := vb) (z := vd) (w := vd) hb0 (Int.mul_nonneg gb7 gb5) (Int.mul_nonneg gb9 gb9)
      clear gt1 gt2
      simp only [List.nil_append, List.cons_append] at N₁ frI
      have off : ∀ q ∈ ([(I, oI), (L' + 1, oc), (g, listOf [Value.ref r0, Value.ref r1].toArray i0), (r0, listOf [Value.int va ta, Value.int vb tb].toArray j0), (r1, listOf [Value.int vc tc, Value.int vd td].toArray k0), (q1, p1), (q2, p2), (q3, p3)] : List (Addr × Obj)), q.1 ≠ 255 := List.forall_mem_cons.mpr ⟨frI.ne' (a := 255) (by k_memK), List.forall_mem_cons.mpr ⟨Nat.ne_of_gt (Nat.lt_trans (by omega) (Nat.lt_succ_self L')), List.forall_mem_cons.mpr ⟨fg.ne' (a := 255) (by k_memK), List.forall_mem_cons.mpr ⟨f0.ne' (a := 255) (by k_memK), List.forall_mem_cons.mpr ⟨f1.ne' (a := 255) (by k_memK),
        List.forall_mem_cons.mpr ⟨Nat.ne_of_gt hq1, List.forall_mem_cons.mpr ⟨Nat.ne_of_gt hq2, List.forall_mem_cons.mpr ⟨Nat.ne_of_gt hq3, List.forall_mem_nil _⟩⟩⟩⟩⟩⟩⟩⟩
      have hIc : ∀ q ∈ cs, @Ne Nat q.1 I := fun q hq => frI q (.tail _ (.tail _ (.tail _ (.tail _ (.tail _ (.tail _ (.tail _ (.tail _ hq))))))))
      (try k_fold)
      k_steps
      rename Fr g' L' _ _ => FC
      rename News g' L' _ _ => NC
      unfold Hold
      k_dflt (refine' lam_one (T := T) (cs := cs) (I := I) (R := [(I, oI), (L' + 1, oc), (g, listOf [Value.ref r0, Value.ref r1].toArray i0), (r0, listOf [Value.int va ta, Value.int vb tb].toArray j0), (r1, listOf [Value.int vc tc, Value.int vd td].toArray k0), (q1, p1), (q2, p2), (q3, p3)]) FC (news_swap NC) hTab off hIc ⟨oI, .head _⟩ ?Tp ?C ?cd ?l ?c ?cl ?_; (case Tp => k_asm); (case C => kn_code); (case cd => exact rfl); (case l => exact rfl); (case c => exact rfl); (case cl => exact rfl))
      intro fp c1 o1 vs1 t1 ct1 T1 cs1 h1 tk1 FF1 NN1 d1 v1 hT1 hcI hI1
      simp only [List.nil_append, List.cons_append] at NN1
      clear FC NC
      (try clear F₁)
      (try clear N₁)
      (try dsimp only)
      (try k_fold)
      k_steps
      unfold Hold
      k_dflt (refine' lam_two (T := T1) (cs := cs1) (I := I) (R := [(I, oI), (L' + 1, oc), (g, listOf [Value.ref r0, Value.ref r1].toArray i0), (r0, listOf [Value.int va ta, Value.int vb tb].toArray j0), (r1, listOf [Value.int vc tc, Value.int vd td].toArray k0), (q1, p1), (q2, p2), (q3, p3)]) FF1 NN1 hT1 off hI1 ⟨oI, .head _⟩ ?Tp ?C ?cd ?l ?c ?cl ?_; (case Tp => k_asm); (case C => kn_code); (case cd => exact rfl); (case l => exact rfl); (case c => exact rfl); (case cl => exact rfl))
      intro ft c2 o2 vs2 t2 ct2 h2 tk2 FF NN d2 v2 hcI2
      clear FF1 NN1
      (try dsimp only)
      (try k_fold)
      k_steps
      unfold Hold
      k_dflt (refine' grid_says (hb := base) C (fp := fp) (ft := ft) (c1 := c1) (c2 := c2) (kc := L' + 1) (o1 := o1) (o2 := o2) (ok := oc) (n := n) ?hp ?ht (gr := g) (ra := r0) (rb := r1) ?hn ?b1 ?b2 ?b3 ?b4 ?k1 ?k2 ?k3 ?k4 ?k5 ?kK ?ks ?kd ?ku ?kR; (case k4 => exact NN); (case ks => k_allIn); (case k1 => k_asm); (case k2 => k_asm); (case k3 => k_asm); (case k5 => k_asm); (case kK => exact rfl); (case kd => ktr_room); (case ku => ktr_units); (case hn => exact ⟨hb0, hb4⟩); (case b1 => exact ⟨gb3, gb4⟩); (case b2 => exact ⟨gb5, gb6⟩); (case b3 => exact ⟨gb7, gb8⟩); (case b4 => exact ⟨gb9, gb10⟩))
      case hp =>
        clear NN FF frI
        unfold PlusSays SaysN
        intro x y tx ty dp un gd cn sc a ccd cl outer A₀ base h₀ L m news s Q E B F X N T hk sub hpre hdp hun hret
        have e1 := sub _ (List.Mem.head _)
        have e2 := sub _ (List.Mem.tail _ (List.Mem.head _))
        have e3 := sub _ (List.Mem.tail _ (List.Mem.tail _ (List.Mem.head _)))
        refine wpAny_call ?_
        k_dflt (refine' kla_code ?k1 ?k2 ?k3 ?k4 ?k5 ?kA ?kF ?kK ?k6 ?k7 ?k8 ?k9 ?kB ?_ ?c2 ?c3 ?c4 ?c5; (case kA => exact rfl); (case kF => exact rfl); (case kK => assumption); (case k1 => k_asm); (case k2 => k_asm); (case k3 => k_asm); (case k4 => exact N); (case k5 => k_asm); (case k6 => exact e1); (case k7 => exact codeRec_news N e2 d1 v1); (case k8 => ktr_room); (case k9 => exact rfl); (case c5 => decide); (case kB => exact locs rfl); (case c2 => exact rfl); (case c3 => exact rfl); (case c4 => exact rfl); k_whole; intro g' L' h' FG' F' N' B' X' T'; (try dsimp only); (try k_lift B'); (try k_fold))
        k_steps
        all_goals (exact hret _ _ _ (by k_asm) (by k_asm))
      case ht =>
        clear NN FF frI
        unfold TimesSays SaysN
        intro x y tx ty dp un gd cn sc a ccd cl outer A₀ base h₀ L m news s Q E B F X N T hk sub hpre hdp hun hret
        have e1 := sub _ (List.Mem.head _)
        have e2 := sub _ (List.Mem.tail _ (List.Mem.head _))
        have e3 := sub _ (List.Mem.tail _ (List.Mem.tail _ (List.Mem.head _)))
        refine wpAny_call ?_
        k_dflt (refine' kla_code ?k1 ?k2 ?k3 ?k4 ?k5 ?kA ?kF ?kK ?k6 ?k7 ?k8 ?k9 ?kB ?_ ?c2 ?c3 ?c4 ?c5; (case kA => exact rfl); (case kF => exact rfl); (case kK => assumption); (case k1 => k_asm); (case k2 => k_asm); (case k3 => k_asm); (case k4 => exact N); (case k5 => k_asm); (case k6 => exact e1); (case k7 => exact codeRec_news N e2 d2 v2); (case k8 => ktr_room); (case k9 => exact rfl); (case c5 => decide); (case kB => exact locs rfl); (case c2 => exact rfl); (case c3 => exact rfl); (case c4 => exact rfl); k_whole; intro g' L' h' FG' F' N' B' X' T'; (try dsimp only); (try k_lift B'); (try k_fold))
        k_steps
        all_goals (exact hret _ _ _ (by k_asm) (by k_asm))
      case kR =>
        intro g2 n0 n1 s1 s2 s3 s4 j1 j2 j3 h9 tk9 F9 N9 fr1 fr2 fr3
        have hfin : OwnOff [(I, oI)] (((255, tabObj #[rawInt 187, rawInt 0, .ref c1, rawInt 188, rawInt 0, .ref c2]) :: (L' + 1, oc) :: (g2, listOf [Value.ref n0, Value.ref n1].toArray j1) :: (n0, listOf [Value.int (cellV n va va vb vc) s1, Value.int (cellV n va vb vb vd) s2].toArray j2) :: (n1, listOf [Value.int (cellV n vc va vd vc) s3, Value.int (cellV n vc vb vd vd) s4].toArray j3) :: (q1, p1) :: (q2, p2) :: (q3, p3) :: [(c1, o1), (c2, o2)]).map (·.1))  := by
          refine own_off ?_
          refine List.forall_mem_cons.mpr ⟨frI.ne (a := 255) (by k_memK), ?_⟩
          refine List.forall_mem_cons.mpr ⟨frI.ne (a := L' + 1) (by k_memK), ?_⟩
          refine List.forall_mem_cons.mpr ⟨fr1.ne' (a := I) (by k_memK), ?_⟩
          refine List.forall_mem_cons.mpr ⟨fr2.ne' (a := I) (by k_memK), ?_⟩
          refine List.forall_mem_cons.mpr ⟨fr3.ne' (a := I) (by k_memK), ?_⟩
          refine List.forall_mem_cons.mpr ⟨frI.ne (a := q1) (by k_memK), ?_⟩
          refine List.forall_mem_cons.mpr ⟨frI.ne (a := q2) (by k_memK), ?_⟩
          refine List.forall_mem_cons.mpr ⟨frI.ne (a := q3) (by k_memK), ?_⟩
          refine List.forall_mem_cons.mpr ⟨hcI, ?_⟩
          refine List.forall_mem_cons.mpr ⟨hcI2, ?_⟩
          exact List.forall_mem_nil _
        have z1 : Fresh [(255, tabObj #[rawInt 187, rawInt 0, .ref c1, rawInt 188, rawInt 0, .ref c2])] g2 := Fresh.one (a := 255) fr1 (by k_memK)
        have z2 : Fresh [(255, tabObj #[rawInt 187, rawInt 0, .ref c1, rawInt 188, rawInt 0, .ref c2])] n0 := Fresh.one (a := 255) fr2 (by k_memK)
        have z3 : Fresh [(255, tabObj #[rawInt 187, rawInt 0, .ref c1, rawInt 188, rawInt 0, .ref c2])] n1 := Fresh.one (a := 255) fr3 (by k_memK)
        have im1 : IntMulOk (cellV n va va vb vc) (cellV n vc vb vd vd) := mulOk64 cb4 hb4
        have im2 : IntMulOk (cellV n va vb vb vd) (cellV n vc va vd vc) := mulOk64 cb3 hb4
        have hn0 : n ≠ 0 := Int.ne_of_gt hb0
        clear FF NN frI fr1 fr2 fr3 hcI hcI2 off hIc gb1 gb2 gb3 gb4 gb5 gb6 gb7 gb8 gb9 gb10 hhh hLI hi cb1 cb2 cb3 cb4 fg f0 f1 hq1 hq2 hq3 hret hbd
        (try dsimp only)
        (try k_fold)
        k_steps
        rename Fr g' L' _ _ => FE
        rename News g' L' _ _ => NE
        unfold Hold
        refine InvEndG.intro FE NE ?hj hfin ?hn2 ?ho2
        case hj =>
          unfold InvS
          exact ⟨_, _, [(c1, o1), (c2, o2)], g2, n0, n1, _, s1, s2, s3, s4, j1, j2, j3, Or.inr ⟨c1, c2, o1, o2, vs1, vs2, t1, t2, rfl, rfl, d1, v1, d2, v2⟩, z1, z2, z3, map_form rfl rfl, rfl⟩
        case hn2 => k_allIn
        case ho2 => k_allIn

    case done =>
      clear FF0 NN0 IR FF NN hk9 L1 L2 L3 L4 N
      intro m₁ nx h tk hJ F₁ N₁
      have hl := last_at ok
      obtain ⟨u, T', cs', g, r0, r1, th, ta, tb, tc, td, i0, j0, k0, hTab, fg, f0, f1, rfl, rfl⟩ := hJ
      change Fr g' L' h _ at F₁
      change News g' L' h _ at N₁
      rw [show (e - 2 - 0 : Int) = e - 2 by omega] at F₁ N₁
      generalize itS n (e - 2).toNat = S at *
      k_steps
      rw [hl, show (b == b) = true from by cases b <;> rfl]
      exact hret _ _ T' cs' hTab (by k_asm) (cb_drop (by k_asm) (fun p hp => by
        rcases List.mem_cons.mp hp with q | hp
        · rw [q]; exact List.Mem.head _
        · exact .tail _ (.tail _ (.tail _ (.tail _ (.tail _ hp))))))
end
section
open PySem.Calls
section
variable {prog : Program} {w : World} {A : Around} {E : Value → Shared → Prop} {s : Shared} {h₀ : Heap} {L l : Addr} {news : List (Addr × Obj)}
/-- an exponent of the five, at a place that is a rest by five -/
theorem power_at {value slice : PySem.Expr} {t1 t2 t3 t4 t5 : Tok} {i : Nat} {x : Int} {u : Tok} {Q : Value → Shared → Prop} (N : News h₀ L s.heap news)
    (hm : (l, listOf [Value.int 3 t1, Value.int 5 t2, Value.int 7 t3, Value.int 11 t4, Value.int 13 t5].toArray i) ∈ news)
    (h : ∀ (e n : Int) (b : Bool) (t : Tok), Ok e n b → Q (.int e t) s)
    (hs : ∀ k : Int, subscripted slice false (.ref l) (.int k u) = operate [.ref l, .int k u] (getItem (.ref l) (.int k u))) :
    wpAny (model prog w) A (subscriptTail value slice (.ref l) (.int (Int.fmod x 5) u)) Q E s := by
  have h0 : 0 ≤ Int.fmod x 5 := Int.fmod_nonneg_of_pos x (by decide)
  have h5 : Int.fmod x 5 < 5 := Int.fmod_lt_of_pos x (by decide)
  generalize Int.fmod x 5 = k at *
  have hk : k = 0 ∨ k = 1 ∨ k = 2 ∨ k = 3 ∨ k = 4 := by
    obtain ⟨j, rfl⟩ := Int.eq_ofNat_of_zero_le h0
    exact (by decide : ∀ j : Nat, j < 5 → ((j : Int) = 0 ∨ (j : Int) = 1 ∨ (j : Int) = 2 ∨ (j : Int) = 3 ∨ (j : Int) = 4)) j (by omega)
  rcases hk with rfl | rfl | rfl | rfl | rfl
  · exact item_led N hm (by decide) (by decide) rfl (h 3 7 true t1 (.inl ⟨rfl, rfl, rfl⟩)) (hs 0)
  · exact item_led N hm (by decide) (by decide) rfl (h 5 31 true t2 (.inr (.inl ⟨rfl, rfl, rfl⟩))) (hs 1)
  · exact item_led N hm (by decide) (by decide) rfl (h 7 127 true t3 (.inr (.inr (.inl ⟨rfl, rfl, rfl⟩)))) (hs 2)
  · exact item_led N hm (by decide) (by decide) rfl (h 11 2047 false t4 (.inr (.inr (.inr (.inl ⟨rfl, rfl, rfl⟩))))) (hs 3)
  · exact item_led N hm (by decide) (by decide) rfl (h 13 8191 true t5 (.inr (.inr (.inr (.inr ⟨rfl, rfl, rfl⟩))))) (hs 4)
end
theorem news_ne {h₀ h : Heap} {L a b : Addr} {o o' : Obj} {news : List (Addr × Obj)} (N : News h₀ L h news) (ha : (a, o) ∈ news) (hb : (b, o') ∈ news) (hd : o.data = o'.data → False) : @Ne Nat a b := by
  intro e
  have h1 := (N _ ha).1
  have h2 := (N _ hb).1
  rw [show a = b from e] at h1
  rw [h1] at h2
  exact hd (congrArg Obj.data (Option.some.inj h2))
theorem news_kept {h₀ h h' : Heap} {L : Addr} {news R : List (Addr × Obj)} {as : List Addr} (N : News h₀ L h news) (kp : Kept h as h') (sub : ∀ p ∈ R, p ∈ news) (off : ∀ p ∈ R, p.1 ∉ as) : News h₀ L h' R := fun p hp =>
  ⟨kp _ _ (N p (sub p hp)).1 (off p hp), (N p (sub p hp)).2⟩
/-- the ledger of the law between its calls: the code table, the bag, the slice, the powers, the code objects -/
noncomputable def led (T : Array Value) (q1 q2 q3 : Addr) (k : Int) (tk : Tok) (i j : Nat) (ws : List Value) (p3 : Obj) (cs : List (Addr × Obj)) : List (Addr × Obj) :=
  (255, tabObj T) :: ([(q1, listOf [Value.ref q2, Value.int k tk].toArray i), (q2, listOf ws.toArray j), (q3, p3)] ++ cs)
theorem led_back {h₀ h h' : Heap} {L : Addr} {T : Array Value} {q1 q2 q3 : Addr} {k k' : Int} {tk tk' : Tok} {i i' j : Nat} {ws : List Value} {p3 : Obj} {cs : List (Addr × Obj)} (hT : Tab T cs) (hq : @LT.lt Nat _ 255 q2 ∧ @LT.lt Nat _ q2 q1 ∧ @LT.lt Nat _ q1 q3)
    (N : News h₀ L h (led T q1 q2 q3 k tk i j ws p3 cs)) (kp : Kept h [q1, q2] h') (N' : News h₀ L h' [(q1, listOf [Value.ref q2, Value.int k' tk'].toArray i'), (q2, listOf ws.toArray j)]) : News h₀ L h' (led T q1 q2 q3 k' tk' i' j ws p3 cs) := by
  have hcs : ∀ p ∈ cs, p.1 ∉ [q1, q2] := by
    intro p hp hm
    have hpn : p ∈ led T q1 q2 q3 k tk i j ws p3 cs := List.mem_cons_of_mem _ (List.mem_append.mpr (.inr hp))
    have e : ∃ vs, p.2.data = .fields vs := by
      rcases hT with ⟨_, rfl⟩ | ⟨c1, c2, o1, o2, vs1, vs2, t1, t2, _, rfl, d1, _, d2, _⟩
      · cases hp
      · rcases List.mem_cons.mp hp with rfl | hp
        · exact ⟨_, d1⟩
        · rw [List.mem_singleton.mp hp]; exact ⟨_, d2⟩
    obtain ⟨vs, e⟩ := e
    rcases List.mem_cons.mp hm with h1 | h1
    · exact news_ne N (a := p.1) (o := p.2) (b := q1) hpn (.tail _ (.head _)) (fun q => by rw [e] at q; cases q) h1
    · exact news_ne N (a := p.1) (o := p.2) (b := q2) hpn (.tail _ (.tail _ (.head _))) (fun q => by rw [e] at q; cases q) (List.mem_singleton.mp h1)
  have two : ∀ {b : Addr}, @Ne Nat b q1 → @Ne Nat b q2 → b ∉ [q1, q2] := fun h1 h2 hm => by
    rcases List.mem_cons.mp hm with h | h
    · exact h1 h
    · exact h2 (List.mem_singleton.mp h)
  have NK := news_kept (R := (255, tabObj T) :: (q3, p3) :: cs) N kp (fun p hp => by
    rcases List.mem_cons.mp hp with rfl | hp
    · exact .head _
    · rcases List.mem_cons.mp hp with rfl | hp
      · exact .tail _ (.tail _ (.tail _ (.head _)))
      · exact .tail _ (.tail _ (.tail _ (.tail _ hp)))) (fun p hp => by
    rcases List.mem_cons.mp hp with rfl | hp
    · exact two (Nat.ne_of_lt (Nat.lt_trans hq.1 hq.2.1)) (Nat.ne_of_lt hq.1)
    · rcases List.mem_cons.mp hp with rfl | hp
      · exact two (Nat.ne_of_gt hq.2.2) (Nat.ne_of_gt (Nat.lt_trans hq.2.1 hq.2.2))
      · exact hcs p hp)
  intro p hp
  rcases List.mem_cons.mp hp with rfl | hp
  · exact NK _ (.head _)
  · rcases List.mem_cons.mp hp with rfl | hp
    · exact N' _ (.head _)
    · rcases List.mem_cons.mp hp with rfl | hp
      · exact N' _ (.tail _ (.head _))
      · exact NK _ (.tail _ hp)
theorem draw_says {w : World} {p : Program} {loose : List Str} {mean : ExcName → Option Value} {mg mb : Str → Option Value} {T : Array Value} {q1 q2 q3 : Addr} {k : Int} {tk tb : Tok} {i j : Nat} {ws : List Value} {ns : List Int} {p3 : Obj} {cs : List (Addr × Obj)}
    (hT : Tab T cs) (hq : @LT.lt Nat _ 255 q2 ∧ @LT.lt Nat _ q2 q1 ∧ @LT.lt Nat _ q1 q3) (hk01 : 0 ≤ k ∧ k < 2) (hws : IntsAre ws ns) (hlen : ns.length ≤ 2)
    {dp un : Nat} {gd : Option (List Code)} {cn : Str} {sc : Scope} {a : Addr} {ccd : Value} {cl : List (Str × Addr)} {outer : List Env} {A₀ : Around} {base h₀ : Heap} {L : Addr} {m : Str → Option Value} {s : Shared} {Q E : Value → Shared → Prop}
    (B : Below A₀ base outer h₀) (F : Fr h₀ L s.heap m) (X : Frag.In (hd.heap_39 w.params) h₀) (N : News h₀ L s.heap (led T q1 q2 q3 k tk i j ws p3 cs)) (Tp : Top p loose mean mg mb h₀) (hk : sc.kind = .function)
    (hdp : dp + 3 < recursionLimit) (hun : un + 64 * 3 < cLine)
    (hret : ∀ (x : Int) (t t' : Tok) (i' : Nat) (h' : Heap) (tk' : Nat), Fr h₀ L h' m → News h₀ L h' (led T q1 q2 q3 (k + 1) t' i' j ws p3 cs) → Q (.int (Int.fmod x 5) t) { s with heap := h', toks := tk' }) :
      wpAny (model PySem.Challenge.rw_xm0052_01.row.prog w) (ktrTop dp un gd cn sc L a ccd cl outer) (call (.ref 239) [.ref q1, .int 5 tb]) Q E s := by
  k_with_none
  k_with "ktr_rel" => (( (case k1 => k_asm); (case k2 => k_asm); (case k3 => k_asm); (case k4 => k_asm); (case k5 => k_asm); (case kK => first | exact rfl | assumption); (case kp => first | trivial | with_reducible assumption | ((repeat' refine And.intro ?_ ?_) <;> first | with_reducible assumption | exact And.left (by with_reducible assumption) | exact And.right (by with_reducible assumption) | decide | omega) | omega | fail "premise"); (case kd => ktr_room); (case ku => ktr_units); k_whole; intro _ _ _ _ _; (try dsimp only); (try k_fold)))
  k_with "ktr_room" => (first | (refine' roomL ?ra ?rb; (case ra => with_reducible assumption); (case rb => exact Nat.le_of_ble_eq_true rfl)) | fail "room")
  k_with "ktr_units" => (first | (refine' roomL ?ra ?rb; (case ra => with_reducible assumption); (case rb => exact Nat.le_of_ble_eq_true rfl)) | fail "room")
  k_with "k_units" => (first | exact Nat.le_of_ble_eq_true rfl | ktr_units)
  revert X
  k_fill
  intro X
  have N₁ : News h₀ L s.heap [(q1, listOf [Value.ref q2, Value.int k tk].toArray i), (q2, listOf ws.toArray j)] := news_sub N (fun p hp => by
    rcases List.mem_cons.mp hp with rfl | hp
    · exact .tail _ (.head _)
    · rw [List.mem_singleton.mp hp]; exact .tail _ (.tail _ (.head _)))
  have hlw : ws.length ≤ 2 := by have := hws.length; omega
  obtain ⟨hq1, hq2, hq3⟩ := hq
  refine wpAny_call ?_
  k_dflt (refine' code_F (binds := [(Str.ofString "bag", Value.ref q1), (Str.ofString "below", Value.int 5 tb)]) ?k1 ?k2 ?k3 ?k4 ?k5 ?kA ?kF ?kK ?k6 ?k7 ?k8 ?k9 ?kB ?_ ?c2 ?c3 ?c4 ?c5; (case kA => exact rfl); (case kF => exact rfl); (case kK => assumption); (case k1 => k_asm); (case k2 => k_asm); (case k3 => k_asm); (case k4 => exact N₁); (case k5 => k_asm); (case k6 => k_is); (case k7 => k_is); (case k8 => ktr_room); (case k9 => exact BindsTo.of_eq rfl); (case c5 => decide); (case kB => exact locs rfl); (case c2 => exact rfl); (case c3 => exact rfl); (case c4 => exact rfl); k_whole; intro g' L' h' FG' F' N' B' X' T' l1 ls hkg; (try k_lt l1); (try dsimp only); (try k_lift B'); (try k_fold))
  clear F N₁ FG' B
  k_steps
  all_goals (unfold PostF Hold; intro hkp; rename Fr h₀ L _ m => kF; rename News h₀ L _ _ => kN; exact hret _ _ _ _ _ _ kF (led_back hT ⟨hq1, hq2, hq3⟩ N hkp kN))
theorem right_use {w : World} {p : Program} {loose : List Str} {mean : ExcName → Option Value} {mg mb : Str → Option Value} {e n : Int} {b : Bool} {tx : Tok} {T : Array Value} {q1 q2 q3 : Addr} {k : Int} {tk : Tok} {i j : Nat} {ws : List Value} {p3 : Obj} {cs : List (Addr × Obj)}
    (ok : Ok e n b) (hT : Tab T cs) (hq : @LT.lt Nat _ 255 q2 ∧ @LT.lt Nat _ q2 q1 ∧ @LT.lt Nat _ q1 q3)
    {dp un : Nat} {gd : Option (List Code)} {cn : Str} {sc : Scope} {a : Addr} {ccd : Value} {cl : List (Str × Addr)} {outer : List Env} {A₀ : Around} {base h₀ : Heap} {L : Addr} {m : Str → Option Value} {s : Shared} {Q E : Value → Shared → Prop}
    (B : Below A₀ base outer h₀) (F : Fr h₀ L s.heap m) (X : Frag.In (hd.heap_39 w.params) h₀) (N : News h₀ L s.heap (led T q1 q2 q3 k tk i j ws p3 cs)) (Tp : Top p loose mean mg mb h₀) (C : CodeHd base 259 255) (hk : sc.kind = .function)
    (hdp : dp + 20 < recursionLimit) (hun : un + 64 * 20 < cLine)
    (hret : ∀ (T' : Array Value) (cs' : List (Addr × Obj)) (h' : Heap) (tk' : Nat), Tab T' cs' → Fr h₀ L h' m → News h₀ L h' (led T' q1 q2 q3 k tk i j ws p3 cs') → Q (.bool true) { s with heap := h', toks := tk' }) :
      wpAny (model PySem.Challenge.rw_xm0052_01.row.prog w) (ktrTop dp un gd cn sc L a ccd cl outer) (call (.ref 260) [.int e tx]) Q E s :=
  right_says ok tx T cs hT q1 q2 q3 _ _ _ _ _ _ _ _ _ _ _ _ _ _ _ _ _ _ _ _ B F X N Tp C ⟨Nat.lt_trans hq.1 hq.2.1, hq.1, Nat.lt_trans hq.1 (Nat.lt_trans hq.2.1 hq.2.2)⟩ hk hdp hun fun h' tk' T' cs' t F' N' => hret T' cs' h' tk' t F' N'
theorem law_holds : PySem.Challenge.rw_xm0052_01.Holds := hd (by
  k_with_none
  k_with "ktr_rel" => (( (case k1 => k_asm); (case k2 => k_asm); (case k3 => k_asm); (case k4 => k_asm); (case k5 => k_asm); (case kK => first | exact rfl | assumption); (case kp => first | trivial | with_reducible assumption | ((repeat' refine And.intro ?_ ?_) <;> first | with_reducible assumption | exact And.left (by with_reducible assumption) | exact And.right (by with_reducible assumption) | decide | omega) | omega | fail "premise"); (case kd => ktr_room); (case ku => ktr_units); k_whole; intro _ _ _ _ _; (try dsimp only); (try k_fold)))
  k_with "ktr_room" => (first | (refine' roomL ?ra ?rb; (case ra => with_reducible assumption); (case rb => exact Nat.le_of_ble_eq_true rfl)) | fail "room")
  k_with "ktr_units" => (first | (refine' roomL ?ra ?rb; (case ra => with_reducible assumption); (case rb => exact Nat.le_of_ble_eq_true rfl)) | fail "room")
  k_with "k_units" => (first | exact Nat.le_of_ble_eq_true rfl | ktr_units)
  k_with "subscriptTail Name Call ref int" => ((k_here; (with_reducible show wpAny _ _ (subscriptTail _ _ (Value.ref _) (Value.int _ _)) _ _ _); k_dflt (refine' power_at ?N ?m ?_ ?hs; (case hs => (intro k9; with_unfolding_all rfl)); (case N => k_asm); (case m => k_memK); k_whole; intro e9 n9 b9 t9 ok9)))
  k_with "call ref" => (((with_reducible show wpAny _ _ (call (Value.ref 260) _) _ _ _); refine Hold.of ?_))
  k_with "call ref" => (((with_reducible show wpAny _ _ (call (Value.ref 239) _) _ _ _); refine Hold.of ?_))
  k_go0
  (all_goals try k_fold)
  k_steps
  rename_i q2 ws h1 hI hC hL l1 q1 h2 l2 q3 h3 l3 qt h4 l4 h5 h6 h7 FF NN
  unfold Hold
  have hq : @LT.lt Nat _ 255 q2 ∧ @LT.lt Nat _ q2 q1 ∧ @LT.lt Nat _ q1 q3 := ⟨l1, l2.1, l3.1⟩
  have hlen := Nat.le_trans (Nat.le_of_eq hC) (Nat.min_le_left 2 _)
  k_dflt (refine' draw_says (q2 := q2) (q3 := q3) (k := 0) (T := #[]) (cs := []) (.inl ⟨rfl, rfl⟩) hq (by decide) hI hlen ?k1 ?k2 ?k3 (news_sub NN ?k4) ?k5 ?kK ?kd ?ku ?_; (case k4 => (refine List.forall_mem_cons.mpr ⟨by k_memK, ?_⟩; refine List.forall_mem_cons.mpr ⟨by k_memK, ?_⟩; refine List.forall_mem_cons.mpr ⟨by k_memK, ?_⟩; refine List.forall_mem_cons.mpr ⟨by k_memK, ?_⟩; exact List.forall_mem_nil _)); (case k1 => k_asm); (case k2 => k_asm); (case k3 => k_asm); (case k5 => k_asm); (case kK => exact rfl); (case kd => ktr_room); (case ku => ktr_units); k_whole)
  intro x9 t9 t8 i9 h9 tk9 F9 N9
  unfold led at N9
  simp only [List.cons_append, List.nil_append] at N9
  clear FF NN
  (try dsimp only)
  (try k_fold)
  k_steps
  unfold Hold
  k_dflt (refine' right_use (q2 := q2) (q3 := q3) (T := #[]) (cs := []) (by assumption) (.inl ⟨rfl, rfl⟩) hq ?k1 ?k2 ?k3 N9 ?k5 ?kC ?kK ?kd ?ku ?_; (case kC => assumption); (case k1 => k_asm); (case k2 => k_asm); (case k3 => k_asm); (case k5 => k_asm); (case kK => exact rfl); (case kd => ktr_room); (case ku => ktr_units); k_whole)
  clear N9 F9
  intro T2 cs2 h10 tk10 hT2 F10 N10
  (try dsimp only)
  (try k_fold)
  k_steps
  unfold Hold
  k_dflt (refine' draw_says (q2 := q2) (q3 := q3) (T := T2) (cs := cs2) hT2 hq (by decide) hI hlen ?k1 ?k2 ?k3 N10 ?k5 ?kK ?kd ?ku ?_; (case k1 => k_asm); (case k2 => k_asm); (case k3 => k_asm); (case k5 => k_asm); (case kK => exact rfl); (case kd => ktr_room); (case ku => ktr_units); k_whole)
  clear N10 F10
  intro x11 t11 t12 i11 h11 tk11 F11 N11
  unfold led at N11
  simp only [List.cons_append, List.nil_append] at N11
  (try dsimp only)
  (try k_fold)
  k_steps
  unfold Hold
  k_dflt (refine' right_use (q2 := q2) (q3 := q3) (T := T2) (cs := cs2) (by assumption) hT2 hq ?k1 ?k2 ?k3 N11 ?k5 ?kC ?kK ?kd ?ku ?_; (case kC => assumption); (case k1 => k_asm); (case k2 => k_asm); (case k3 => k_asm); (case k5 => k_asm); (case kK => exact rfl); (case kd => ktr_room); (case ku => ktr_units); k_whole)
  clear N11 F11
  intro T3 cs3 h12 tk12 hT3 F12 N12
  unfold led at N12
  (try dsimp only)
  (try k_fold)
  k_steps)
end
end Mine

set_option maxRecDepth 100000 in
set_option maxHeartbeats 8000000 in
theorem PySem.Challenge.cw_xm0052_01_holds : PySem.Challenge.rw_xm0052_01.Holds :=
  Mine.law_holds
