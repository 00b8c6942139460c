import PyProof.Rows.All
import Wide.All
import OpenK.AllK
import Wide.FinOn
import PySem.Challenge.RW_xm0053_01
open PySem PySem.W PySem.Spec PySem.Calls PyProof.Rows
set_option Elab.async false
set_option maxRecDepth 100000
set_option maxHeartbeats 8000000
open_top Mine.hd for PySem.Challenge.rw_xm0053_01
namespace Mine
local macro_rules | `(tactic| walk_at $s:str) => `(tactic| k_extra $s)
abbrev Ar (d u : Nat) (outer : List Env) : Around := { depth := d, frames := some outer, guards := some [], units := u }
theorem cast_v {Q : Value → Shared → Prop} {a b : Value} {s : Shared} (e : a = b) (h : Q b s) : Q a s := by rw [e]; exact h
structure Halt (P : Prop) : Prop where
  out : P
def firstF (size : Int) : Int := if size < 2 then 1 else if size < 4 then 2 else if size < 8 then 4 else 8
def turnedF (size : Int) : Int := 2 * (size - firstF size) + 1

theorem shl_15 {prog : Program} {w : World} {A : Around} {E : Value → Shared → Prop} {s : Shared} {k : Int} {t u : Tok} {Q : Value → Shared → Prop} (hk : k = 15)
    (h : Q (.int 32768 s.toks) { s with toks := s.toks + 1 }) : wpAny (model prog w) A (binaryOp .LShift (.int 1 t) (.int k u)) Q E s := by
  subst hk
  exact lshift_int_small (by decide) (by decide) (by decide) h
def firstGood (a b : Int) : Bool := decide (b ≤ a → ¬ 2 * b ≤ a → Builtin.bitXor a b = a - b ∧ (a - b) * 2 + 1 = turnedF a)
theorem first_good : (List.range 13).all (fun n => firstGood n 1 && firstGood n 2 && firstGood n 4 && firstGood n 8) = true := by decide +kernel
theorem first_of {a b : Int} (h0 : 1 ≤ a) (h1 : a ≤ 12) (h2 : b = 1 ∨ b = 2 ∨ b = 4 ∨ b = 8) (h3 : b ≤ a) (h4 : ¬ 2 * b ≤ a) : Builtin.bitXor a b = a - b ∧ (a - b) * 2 + 1 = turnedF a := by
  have g := List.all_eq_true.mp first_good a.toNat (List.mem_range.mpr (by omega))
  have e : ((a.toNat : Nat) : Int) = a := by omega
  rw [e] at g
  simp only [Bool.and_eq_true, firstGood, decide_eq_true_eq] at g
  rcases h2 with rfl | rfl | rfl | rfl
  · exact g.1.1.1 h3 h4
  · exact g.1.1.2 h3 h4
  · exact g.1.2 h3 h4
  · exact g.2 h3 h4
theorem xor_firstW {prog : Program} {w : World} {A : Around} {E : Value → Shared → Prop} {s : Shared} {a b : Int} {t u : Tok} {Q : Value → Shared → Prop}
    (h0 : 1 ≤ a) (h1 : a ≤ 12) (h2 : b = 1 ∨ b = 2 ∨ b = 4 ∨ b = 8) (h3 : b ≤ a) (h4 : ¬ 2 * b ≤ a)
    (h : Q (.int (a - b) s.toks) { s with toks := s.toks + 1 }) : wpAny (model prog w) A (binaryOp .BitXor (.int a t) (.int b u)) Q E s :=
  xor_int (by rw [(first_of h0 h1 h2 h3 h4).1]; exact h)
theorem turnedF_of {a b : Int} (h0 : 1 ≤ a) (h1 : a ≤ 12) (h2 : b = 1 ∨ b = 2 ∨ b = 4 ∨ b = 8) (h3 : b ≤ a) (h4 : ¬ 2 * b ≤ a) : (a - b) * 2 + 1 = turnedF a :=
  (first_of h0 h1 h2 h3 h4).2
section
variable {prog : Program} {w : World} {A : Around} {E : Value → Shared → Prop} {s : Shared} {a b : Int} {t u : Tok} {Q : Value → Shared → Prop}
theorem abs_nn (h0 : 0 ≤ a) (h : ∀ u tk, Q (.int a u) { s with toks := tk }) : wpAny (model prog w) A (call (.builtin "abs") [.int a t]) Q E s := by
  refine call_abs_int fun u tk => ?_
  rw [if_neg (by omega)]
  exact h u tk
theorem fdiv_nn (h0 : 0 ≤ a) (h1 : 0 < b) (h2 : b ≤ 100) (h : 0 ≤ a / b → Q (.int (a / b) s.toks) { s with toks := s.toks + 1 }) : wpAny (model prog w) A (binaryOp .FloorDiv (.int a t) (.int b u)) Q E s := by
  refine floordiv_int (by omega) ?_ (Or.inl (PyProof.noPylong_small (by omega)))
  rw [Int.fdiv_eq_ediv_of_nonneg _ (by omega)]
  exact h (Int.ediv_nonneg h0 (by omega))
theorem mul_q (h1 : 0 < b) (h2 : b ≤ 100) (h : Q (.int (b * (a / b)) s.toks) { s with toks := s.toks + 1 }) : wpAny (model prog w) A (binaryOp .Mult (.int b t) (.int (a / b) u)) Q E s :=
  mul_int h (.of_left (intBits_le_64 (by omega) (by omega)))
theorem sub_q (h1 : 0 < b) (h : 0 ≤ a % b → a % b < b → Q (.int (a % b) s.toks) { s with toks := s.toks + 1 }) : wpAny (model prog w) A (binaryOp .Sub (.int a t) (.int (b * (a / b)) u)) Q E s := by
  refine PyProof.Rows.sub_int ?_
  rw [← Int.emod_def]
  exact h (Int.emod_nonneg _ (by omega)) (Int.emod_lt_of_pos _ h1)
end

section
variable {w : World} {mean : ExcName → Option Value} {mg mb : Str → Option Value} {news : List (Addr × Obj)} {dd uu : Nat} {outer : List Env} {env : Env} {base h₀ : Heap} {L : Addr} {m : Str → Option Value} {s : Shared} {Q E : Value → Shared → Prop}
theorem c_fits {n : Int} {t1 t2 : Tok} (h0 : 0 ≤ n) (h1 : n ≤ 10000) (hd : dd ≤ 500) (hf : env.frame = some L) (hk : env.scope.kind = .function) (B : Below (Ar dd uu outer) base outer h₀) (F : Fr h₀ L s.heap m) (X : (Mine.hd.heap_39 w.params).In h₀) (N : News h₀ L s.heap news) (T : Top Mine.hd.view_39 (looseW Mine.hd.view_39 [Str.ofString "BasicError"]) mean mg mb h₀)
    (hret : ∀ h' tk', Fr h₀ L h' m → News h₀ L h' news → Q (.bool true) { s with heap := h', toks := tk' }) :
    wpAny (model PySem.Challenge.rw_xm0053_01.row.prog w) ((Ar dd uu outer).deeper env) (call (.ref 72) [.int n t1, .int 16 t2]) Q E s := by
  revert X; k_fill; intro X
  refine wpAny_call ?_
  k_dflt (refine' code_def ?k1 ?k2 ?k3 ?k4 ?k5 ?kA ?kF ?kK ?k6 ?k7 ?k8 ?k9 ?kB ?_ ?c2 ?c3 ?c4 ?c5; (case kA => exact rfl); (case kF => assumption); (case kK => assumption); (case k1 => k_asm); (case k2 => k_asm); (case k3 => k_asm); (case k4 => k_asm); (case k5 => k_asm); (case k6 => k_is); (case k7 => k_is); (case k8 => exact Nat.lt_of_le_of_lt (Nat.succ_le_succ hd) (by decide)); (case k9 => exact BindsTo.of_eq rfl); (case c5 => decide); (case kB => exact locs rfl); (case c2 => exact rfl); (case c3 => exact rfl); (case c4 => exact rfl); k_whole; intro g' L' h' FG' F' N' B' X' T'; (try dsimp only); (try k_lift B'); (try k_fold))
  k_with_none
  (k_with "binaryOp LShift int int" => (k_here; (with_reducible show wpAny _ _ (binaryOp _ (Value.int 1 _) (Value.int _ _)) _ _ _); refine shl_15 (by decide) ?_))
  k_steps
  all_goals (refine cast_v (congrArg Value.bool (decide_eq_true (by omega))) ?_; refine hret _ _ ?ef ?en; (case ef => k_asm); (case en => first | k_asm | exact cb_drop (by assumption) (fun p hp => by simp only [List.mem_cons] at hp ⊢; simp only [hp, or_true])))
theorem c_whole_of {n : Int} {t1 t2 : Tok} (h0 : 0 ≤ n) (h1 : n ≤ 10000) (hd : dd ≤ 450) (hf : env.frame = some L) (hk : env.scope.kind = .function) (B : Below (Ar dd uu outer) base outer h₀) (F : Fr h₀ L s.heap m) (X : (Mine.hd.heap_39 w.params).In h₀) (N : News h₀ L s.heap news) (T : Top Mine.hd.view_39 (looseW Mine.hd.view_39 [Str.ofString "BasicError"]) mean mg mb h₀)
    (hret : ∀ t' h' tk', Fr h₀ L h' m → News h₀ L h' news → Q (.int (n) t') { s with heap := h', toks := tk' }) :
    wpAny (model PySem.Challenge.rw_xm0053_01.row.prog w) ((Ar dd uu outer).deeper env) (call (.ref 79) [.int n t1, .int 16 t2]) Q E s := by
  revert X; k_fill; intro X
  refine wpAny_call ?_
  k_dflt (refine' code_def ?k1 ?k2 ?k3 ?k4 ?k5 ?kA ?kF ?kK ?k6 ?k7 ?k8 ?k9 ?kB ?_ ?c2 ?c3 ?c4 ?c5; (case kA => exact rfl); (case kF => assumption); (case kK => assumption); (case k1 => k_asm); (case k2 => k_asm); (case k3 => k_asm); (case k4 => k_asm); (case k5 => k_asm); (case k6 => k_is); (case k7 => k_is); (case k8 => exact Nat.lt_of_le_of_lt (Nat.succ_le_succ hd) (by decide)); (case k9 => exact BindsTo.of_eq rfl); (case c5 => decide); (case kB => exact locs rfl); (case c2 => exact rfl); (case c3 => exact rfl); (case c4 => exact rfl); k_whole; intro g' L' h' FG' F' N' B' X' T'; (try dsimp only); (try k_lift B'); (try k_fold))
  k_with_none
  (k_with "call ref" => (k_here; k_dflt ((refine' c_fits ?b0 ?b1 ?kd ?kf ?kk ?kB ?kF ?kX ?kN ?kT ?_); (case kf => with_unfolding_all rfl); (case kk => with_unfolding_all rfl); (case kB => k_asm); (case kF => k_asm); (case kX => k_asm); (case kN => k_asm); (case kT => k_asm); (case b0 => omega); (case b1 => omega); (case kd => exact Nat.le_trans (Nat.succ_le_succ hd) (by decide)); k_whole; intro h9 tk9 F9 N9; (try dsimp only); (try k_fold))))
  k_steps
  all_goals (refine hret _ _ _ ?ef ?en; (case ef => k_asm); (case en => first | k_asm | exact cb_drop (by assumption) (fun p hp => by simp only [List.mem_cons] at hp ⊢; simp only [hp, or_true])))
theorem c_settled {n : Int} {t1 t2 t3 : Tok} (h0 : 0 ≤ n) (h1 : n ≤ 10000) (hd : dd ≤ 450) (hf : env.frame = some L) (hk : env.scope.kind = .function) (B : Below (Ar dd uu outer) base outer h₀) (F : Fr h₀ L s.heap m) (X : (Mine.hd.heap_39 w.params).In h₀) (N : News h₀ L s.heap news) (T : Top Mine.hd.view_39 (looseW Mine.hd.view_39 [Str.ofString "BasicError"]) mean mg mb h₀)
    (hret : ∀ t' h' tk', Fr h₀ L h' m → News h₀ L h' news → Q (.int (n) t') { s with heap := h', toks := tk' }) :
    wpAny (model PySem.Challenge.rw_xm0053_01.row.prog w) ((Ar dd uu outer).deeper env) (call (.ref 213) [.int n t1, .int 16 t2, .int 9 t3]) Q E s := by
  revert X; k_fill; intro X
  refine wpAny_call ?_
  k_dflt (refine' code_def ?k1 ?k2 ?k3 ?k4 ?k5 ?kA ?kF ?kK ?k6 ?k7 ?k8 ?k9 ?kB ?_ ?c2 ?c3 ?c4 ?c5; (case kA => exact rfl); (case kF => assumption); (case kK => assumption); (case k1 => k_asm); (case k2 => k_asm); (case k3 => k_asm); (case k4 => k_asm); (case k5 => k_asm); (case k6 => k_is); (case k7 => k_is); (case k8 => exact Nat.lt_of_le_of_lt (Nat.succ_le_succ hd) (by decide)); (case k9 => exact BindsTo.of_eq rfl); (case c5 => decide); (case kB => exact locs rfl); (case c2 => exact rfl); (case c3 => exact rfl); (case c4 => exact rfl); k_whole; intro g' L' h' FG' F' N' B' X' T'; (try dsimp only); (try k_lift B'); (try k_fold))
  k_with_none
  (k_with "call ref" => (k_here; k_dflt ((refine' c_fits ?b0 ?b1 ?kd ?kf ?kk ?kB ?kF ?kX ?kN ?kT ?_); (case kf => with_unfolding_all rfl); (case kk => with_unfolding_all rfl); (case kB => k_asm); (case kF => k_asm); (case kX => k_asm); (case kN => k_asm); (case kT => k_asm); (case b0 => omega); (case b1 => omega); (case kd => exact Nat.le_trans (Nat.succ_le_succ hd) (by decide)); k_whole; intro h9 tk9 F9 N9; (try dsimp only); (try k_fold))))
  k_steps
  all_goals (refine hret _ _ _ ?ef ?en; (case ef => k_asm); (case en => first | k_asm | exact cb_drop (by assumption) (fun p hp => by simp only [List.mem_cons] at hp ⊢; simp only [hp, or_true])))
theorem c_is_whole {n : Int} {t1 : Tok} (hd : dd ≤ 450) (hf : env.frame = some L) (hk : env.scope.kind = .function) (B : Below (Ar dd uu outer) base outer h₀) (F : Fr h₀ L s.heap m) (X : (Mine.hd.heap_39 w.params).In h₀) (N : News h₀ L s.heap news) (T : Top Mine.hd.view_39 (looseW Mine.hd.view_39 [Str.ofString "BasicError"]) mean mg mb h₀)
    (hret : ∀ h' tk', Fr h₀ L h' m → News h₀ L h' news → Q (.bool true) { s with heap := h', toks := tk' }) :
    wpAny (model PySem.Challenge.rw_xm0053_01.row.prog w) ((Ar dd uu outer).deeper env) (call (.ref 206) [.int n t1]) Q E s := by
  revert X; k_fill; intro X
  refine wpAny_call ?_
  k_dflt (refine' code_def ?k1 ?k2 ?k3 ?k4 ?k5 ?kA ?kF ?kK ?k6 ?k7 ?k8 ?k9 ?kB ?_ ?c2 ?c3 ?c4 ?c5; (case kA => exact rfl); (case kF => assumption); (case kK => assumption); (case k1 => k_asm); (case k2 => k_asm); (case k3 => k_asm); (case k4 => k_asm); (case k5 => k_asm); (case k6 => k_is); (case k7 => k_is); (case k8 => exact Nat.lt_of_le_of_lt (Nat.succ_le_succ hd) (by decide)); (case k9 => exact BindsTo.of_eq rfl); (case c5 => decide); (case kB => exact locs rfl); (case c2 => exact rfl); (case c3 => exact rfl); (case c4 => exact rfl); k_whole; intro g' L' h' FG' F' N' B' X' T'; (try dsimp only); (try k_lift B'); (try k_fold))
  k_with_none
  k_steps
  all_goals (refine hret _ _ ?ef ?en; (case ef => k_asm); (case en => first | k_asm | exact cb_drop (by assumption) (fun p hp => by simp only [List.mem_cons] at hp ⊢; simp only [hp, or_true])))
end

section
variable {w : World} {mean : ExcName → Option Value} {mg mb : Str → Option Value} {news : List (Addr × Obj)} {dd uu : Nat} {outer : List Env} {env : Env} {base h₀ : Heap} {L : Addr} {m : Str → Option Value} {s : Shared} {Q E : Value → Shared → Prop}
theorem c_quot {a b : Int} {t1 t2 : Tok} (ha : 0 ≤ a) (ha2 : a ≤ 100) (hb : 0 < b) (hb2 : b ≤ 100) (hd : dd ≤ 420) (hf : env.frame = some L) (hk : env.scope.kind = .function) (B : Below (Ar dd uu outer) base outer h₀) (F : Fr h₀ L s.heap m) (X : (Mine.hd.heap_39 w.params).In h₀) (N : News h₀ L s.heap news) (T : Top Mine.hd.view_39 (looseW Mine.hd.view_39 [Str.ofString "BasicError"]) mean mg mb h₀)
    (hret : ∀ t' h' tk', Fr h₀ L h' m → News h₀ L h' news → Q (.int (a / b) t') { s with heap := h', toks := tk' }) :
    wpAny (model PySem.Challenge.rw_xm0053_01.row.prog w) ((Ar dd uu outer).deeper env) (call (.ref 227) [.int a t1, .int b t2]) Q E s := by
  revert X; k_fill; intro X
  refine wpAny_call ?_
  k_dflt (refine' code_def ?k1 ?k2 ?k3 ?k4 ?k5 ?kA ?kF ?kK ?k6 ?k7 ?k8 ?k9 ?kB ?_ ?c2 ?c3 ?c4 ?c5; (case kA => exact rfl); (case kF => assumption); (case kK => assumption); (case k1 => k_asm); (case k2 => k_asm); (case k3 => k_asm); (case k4 => k_asm); (case k5 => k_asm); (case k6 => k_is); (case k7 => k_is); (case k8 => exact Nat.lt_of_le_of_lt (Nat.succ_le_succ hd) (by decide)); (case k9 => exact BindsTo.of_eq rfl); (case c5 => decide); (case kB => exact locs rfl); (case c2 => exact rfl); (case c3 => exact rfl); (case c4 => exact rfl); k_whole; intro g' L' h' FG' F' N' B' X' T'; (try dsimp only); (try k_lift B'); (try k_fold))
  k_with_none
  (k_with "call builtin:abs" => (k_here; refine abs_nn (by omega) ?_; intro _ _))
  (k_with "binaryOp FloorDiv int int" => (k_here; refine fdiv_nn (by omega) (by omega) (by omega) ?_; intro _))
  (k_with "ite" => (k_here; (with_reducible show ite ((_ == _) = true) _ _); first | (refine ite_pos (by simp only [beq_iff_eq, decide_eq_decide]; omega) ?_) | (refine ite_neg (by simp only [beq_iff_eq, decide_eq_decide]; omega) ?_)))
  k_steps
  all_goals (refine hret _ _ _ ?ef ?en; (case ef => k_asm); (case en => first | k_asm | exact cb_drop (by assumption) (fun p hp => by simp only [List.mem_cons] at hp ⊢; simp only [hp, or_true])))
theorem c_rest {a b : Int} {t1 t2 : Tok} (ha : 0 ≤ a) (ha2 : a ≤ 100) (hb : 0 < b) (hb2 : b ≤ 100) (hd : dd ≤ 400) (hf : env.frame = some L) (hk : env.scope.kind = .function) (B : Below (Ar dd uu outer) base outer h₀) (F : Fr h₀ L s.heap m) (X : (Mine.hd.heap_39 w.params).In h₀) (N : News h₀ L s.heap news) (T : Top Mine.hd.view_39 (looseW Mine.hd.view_39 [Str.ofString "BasicError"]) mean mg mb h₀)
    (hret : ∀ t' h' tk', 0 ≤ a % b → a % b < b → Fr h₀ L h' m → News h₀ L h' news → Q (.int (a % b) t') { s with heap := h', toks := tk' }) :
    wpAny (model PySem.Challenge.rw_xm0053_01.row.prog w) ((Ar dd uu outer).deeper env) (call (.ref 234) [.int a t1, .int b t2]) Q E s := by
  revert X; k_fill; intro X
  refine wpAny_call ?_
  k_dflt (refine' code_def ?k1 ?k2 ?k3 ?k4 ?k5 ?kA ?kF ?kK ?k6 ?k7 ?k8 ?k9 ?kB ?_ ?c2 ?c3 ?c4 ?c5; (case kA => exact rfl); (case kF => assumption); (case kK => assumption); (case k1 => k_asm); (case k2 => k_asm); (case k3 => k_asm); (case k4 => k_asm); (case k5 => k_asm); (case k6 => k_is); (case k7 => k_is); (case k8 => exact Nat.lt_of_le_of_lt (Nat.succ_le_succ hd) (by decide)); (case k9 => exact BindsTo.of_eq rfl); (case c5 => decide); (case kB => exact locs rfl); (case c2 => exact rfl); (case c3 => exact rfl); (case c4 => exact rfl); k_whole; intro g' L' h' FG' F' N' B' X' T'; (try dsimp only); (try k_lift B'); (try k_fold))
  k_with_none
  (k_with "call ref" => (k_here; k_dflt ((refine' c_quot ?b0 ?b1 ?b2 ?b3 ?kd ?kf ?kk ?kB ?kF ?kX ?kN ?kT ?_); (case kf => with_unfolding_all rfl); (case kk => with_unfolding_all rfl); (case kB => k_asm); (case kF => k_asm); (case kX => k_asm); (case kN => k_asm); (case kT => k_asm); (case b0 => omega); (case b1 => omega); (case b2 => omega); (case b3 => omega); (case kd => exact Nat.le_trans (Nat.succ_le_succ hd) (by decide)); k_whole; intro t9 h9 tk9 F9 N9; (try dsimp only); (try k_fold))))
  (k_with "binaryOp Mult int int" => (k_here; refine mul_q (by omega) (by omega) ?_))
  (k_with "binaryOp Sub int int" => (k_here; (with_reducible show wpAny _ _ (binaryOp _ (Value.int _ _) (Value.int (_ * (_ / _)) _)) _ _ _); refine sub_q (by omega) ?_; intro _ _))
  k_steps
  all_goals (refine hret _ _ _ (by assumption) (by assumption) ?ef ?en; (case ef => k_asm); (case en => first | k_asm | exact cb_drop (by assumption) (fun p hp => by simp only [List.mem_cons] at hp ⊢; simp only [hp, or_true])))
theorem c_wadd {a b : Int} {t1 t2 t3 t4 t5 : Tok}(ha : 0 ≤ a) (ha2 : a ≤ 100) (hb : 0 ≤ b) (hb2 : b ≤ 100) (hd : dd ≤ 400) (hf : env.frame = some L) (hk : env.scope.kind = .function) (B : Below (Ar dd uu outer) base outer h₀) (F : Fr h₀ L s.heap m) (X : (Mine.hd.heap_39 w.params).In h₀) (N : News h₀ L s.heap news) (T : Top Mine.hd.view_39 (looseW Mine.hd.view_39 [Str.ofString "BasicError"]) mean mg mb h₀)
    (hret : ∀ t' h' tk', Fr h₀ L h' m → News h₀ L h' news → Q (.int (a + b) t') { s with heap := h', toks := tk' }) :
    wpAny (model PySem.Challenge.rw_xm0053_01.row.prog w) ((Ar dd uu outer).deeper env) (call (.ref 220) [.str (Str.ofString "+") t1, .int a t2, .int b t3, .int 16 t4, .int 9 t5]) Q E s := by
  revert X; k_fill; intro X
  refine wpAny_call ?_
  k_dflt (refine' code_def ?k1 ?k2 ?k3 ?k4 ?k5 ?kA ?kF ?kK ?k6 ?k7 ?k8 ?k9 ?kB ?_ ?c2 ?c3 ?c4 ?c5; (case kA => exact rfl); (case kF => assumption); (case kK => assumption); (case k1 => k_asm); (case k2 => k_asm); (case k3 => k_asm); (case k4 => k_asm); (case k5 => k_asm); (case k6 => k_is); (case k7 => k_is); (case k8 => exact Nat.lt_of_le_of_lt (Nat.succ_le_succ hd) (by decide)); (case k9 => exact BindsTo.of_eq rfl); (case c5 => decide); (case kB => exact locs rfl); (case c2 => exact rfl); (case c3 => exact rfl); (case c4 => exact rfl); k_whole; intro g' L' h' FG' F' N' B' X' T'; (try dsimp only); (try k_lift B'); (try k_fold))
  k_with_none
  (k_with "call ref" => (k_here; k_dflt ((refine' c_settled ?b0 ?b1 ?kd ?kf ?kk ?kB ?kF ?kX ?kN ?kT ?_); (case kf => with_unfolding_all rfl); (case kk => with_unfolding_all rfl); (case kB => k_asm); (case kF => k_asm); (case kX => k_asm); (case kN => k_asm); (case kT => k_asm); (case b0 => omega); (case b1 => omega); (case kd => exact Nat.le_trans (Nat.succ_le_succ hd) (by decide)); k_whole; intro t9 h9 tk9 F9 N9; (try dsimp only); (try k_fold))))
  k_steps
  all_goals (refine hret _ _ _ ?ef ?en; (case ef => k_asm); (case en => first | k_asm | exact cb_drop (by assumption) (fun p hp => by simp only [List.mem_cons] at hp ⊢; simp only [hp, or_true])))
theorem c_wmul {a : Int} {t1 t2 t3 t4 t5 : Tok} (ha : 0 ≤ a) (ha2 : a ≤ 100) (hd : dd ≤ 400) (hf : env.frame = some L) (hk : env.scope.kind = .function) (B : Below (Ar dd uu outer) base outer h₀) (F : Fr h₀ L s.heap m) (X : (Mine.hd.heap_39 w.params).In h₀) (N : News h₀ L s.heap news) (T : Top Mine.hd.view_39 (looseW Mine.hd.view_39 [Str.ofString "BasicError"]) mean mg mb h₀)
    (hret : ∀ t' h' tk', Fr h₀ L h' m → News h₀ L h' news → Q (.int (a * 2) t') { s with heap := h', toks := tk' }) :
    wpAny (model PySem.Challenge.rw_xm0053_01.row.prog w) ((Ar dd uu outer).deeper env) (call (.ref 220) [.str (Str.ofString "*") t1, .int a t2, .int 2 t3, .int 16 t4, .int 9 t5]) Q E s := by
  revert X; k_fill; intro X
  refine wpAny_call ?_
  k_dflt (refine' code_def ?k1 ?k2 ?k3 ?k4 ?k5 ?kA ?kF ?kK ?k6 ?k7 ?k8 ?k9 ?kB ?_ ?c2 ?c3 ?c4 ?c5; (case kA => exact rfl); (case kF => assumption); (case kK => assumption); (case k1 => k_asm); (case k2 => k_asm); (case k3 => k_asm); (case k4 => k_asm); (case k5 => k_asm); (case k6 => k_is); (case k7 => k_is); (case k8 => exact Nat.lt_of_le_of_lt (Nat.succ_le_succ hd) (by decide)); (case k9 => exact BindsTo.of_eq rfl); (case c5 => decide); (case kB => exact locs rfl); (case c2 => exact rfl); (case c3 => exact rfl); (case c4 => exact rfl); k_whole; intro g' L' h' FG' F' N' B' X' T'; (try dsimp only); (try k_lift B'); (try k_fold))
  k_with_none
  (k_with "call ref" => (k_here; k_dflt ((refine' c_settled ?b0 ?b1 ?kd ?kf ?kk ?kB ?kF ?kX ?kN ?kT ?_); (case kf => with_unfolding_all rfl); (case kk => with_unfolding_all rfl); (case kB => k_asm); (case kF => k_asm); (case kX => k_asm); (case kN => k_asm); (case kT => k_asm); (case b0 => omega); (case b1 => omega); (case kd => exact Nat.le_trans (Nat.succ_le_succ hd) (by decide)); k_whole; intro t9 h9 tk9 F9 N9; (try dsimp only); (try k_fold))))
  k_steps
  all_goals (refine hret _ _ _ ?ef ?en; (case ef => k_asm); (case en => first | k_asm | exact cb_drop (by assumption) (fun p hp => by simp only [List.mem_cons] at hp ⊢; simp only [hp, or_true])))
theorem reckoned_mod {a b : Int} {t1 t2 t3 t4 t5 : Tok}(ha : 0 ≤ a) (ha2 : a ≤ 100) (hb : 0 < b) (hb2 : b ≤ 100) (hd : dd ≤ 350) (hf : env.frame = some L) (hk : env.scope.kind = .function) (B : Below (Ar dd uu outer) base outer h₀) (F : Fr h₀ L s.heap m) (X : (Mine.hd.heap_39 w.params).In h₀) (N : News h₀ L s.heap news) (T : Top Mine.hd.view_39 (looseW Mine.hd.view_39 [Str.ofString "BasicError"]) mean mg mb h₀)
    (hret : ∀ t' h' tk', Fr h₀ L h' m → News h₀ L h' news → Q (.int (a % b) t') { s with heap := h', toks := tk' }) :
    wpAny (model PySem.Challenge.rw_xm0053_01.row.prog w) ((Ar dd uu outer).deeper env) (call (.ref 262) [.str (Str.ofString "MOD") t1, .int a t2, .int b t3, .int 16 t4, .int 9 t5]) Q E s := by
  revert X; k_fill; intro X
  refine wpAny_call ?_
  k_dflt (refine' code_def ?k1 ?k2 ?k3 ?k4 ?k5 ?kA ?kF ?kK ?k6 ?k7 ?k8 ?k9 ?kB ?_ ?c2 ?c3 ?c4 ?c5; (case kA => exact rfl); (case kF => assumption); (case kK => assumption); (case k1 => k_asm); (case k2 => k_asm); (case k3 => k_asm); (case k4 => k_asm); (case k5 => k_asm); (case k6 => k_is); (case k7 => k_is); (case k8 => exact Nat.lt_of_le_of_lt (Nat.succ_le_succ hd) (by decide)); (case k9 => exact BindsTo.of_eq rfl); (case c5 => decide); (case kB => exact locs rfl); (case c2 => exact rfl); (case c3 => exact rfl); (case c4 => exact rfl); k_whole; intro g' L' h' FG' F' N' B' X' T'; (try dsimp only); (try k_lift B'); (try k_fold))
  k_with_none
  (k_with "call ref" => (k_here; k_dflt ((refine' c_settled ?b0 ?b1 ?kd ?kf ?kk ?kB ?kF ?kX ?kN ?kT ?_); (case kf => with_unfolding_all rfl); (case kk => with_unfolding_all rfl); (case kB => k_asm); (case kF => k_asm); (case kX => k_asm); (case kN => k_asm); (case kT => k_asm); (case b0 => omega); (case b1 => omega); (case kd => exact Nat.le_trans (Nat.succ_le_succ hd) (by decide)); k_whole; intro t9 h9 tk9 F9 N9; (try dsimp only); (try k_fold))))
  (k_with "call ref" => (k_here; k_dflt ((refine' c_is_whole  ?kd ?kf ?kk ?kB ?kF ?kX ?kN ?kT ?_); (case kf => with_unfolding_all rfl); (case kk => with_unfolding_all rfl); (case kB => k_asm); (case kF => k_asm); (case kX => k_asm); (case kN => k_asm); (case kT => k_asm); (case kd => exact Nat.le_trans (Nat.succ_le_succ hd) (by decide)); k_whole; intro h9 tk9 F9 N9; (try dsimp only); (try k_fold))))
  (k_with "call ref" => (k_here; k_dflt ((refine' c_whole_of ?b0 ?b1 ?kd ?kf ?kk ?kB ?kF ?kX ?kN ?kT ?_); (case kf => with_unfolding_all rfl); (case kk => with_unfolding_all rfl); (case kB => k_asm); (case kF => k_asm); (case kX => k_asm); (case kN => k_asm); (case kT => k_asm); (case b0 => omega); (case b1 => omega); (case kd => exact Nat.le_trans (Nat.succ_le_succ hd) (by decide)); k_whole; intro t9 h9 tk9 F9 N9; (try dsimp only); (try k_fold))))
  (k_with "call ref" => (k_here; k_dflt ((refine' c_rest ?b0 ?b1 ?b2 ?b3 ?kd ?kf ?kk ?kB ?kF ?kX ?kN ?kT ?_); (case kf => with_unfolding_all rfl); (case kk => with_unfolding_all rfl); (case kB => k_asm); (case kF => k_asm); (case kX => k_asm); (case kN => k_asm); (case kT => k_asm); (case b0 => omega); (case b1 => omega); (case b2 => omega); (case b3 => omega); (case kd => exact Nat.le_trans (Nat.succ_le_succ hd) (by decide)); k_whole; intro t9 h9 tk9 q0 q1 F9 N9; (try dsimp only); (try k_fold))))
  k_steps
  all_goals (refine hret _ _ _ ?ef ?en; (case ef => k_asm); (case en => first | k_asm | exact cb_drop (by assumption) (fun p hp => by simp only [List.mem_cons] at hp ⊢; simp only [hp, or_true])))
theorem reckoned_add {a b : Int} {t1 t2 t3 t4 t5 : Tok}(ha : 0 ≤ a) (ha2 : a ≤ 100) (hb : 0 ≤ b) (hb2 : b ≤ 100) (hd : dd ≤ 350) (hf : env.frame = some L) (hk : env.scope.kind = .function) (B : Below (Ar dd uu outer) base outer h₀) (F : Fr h₀ L s.heap m) (X : (Mine.hd.heap_39 w.params).In h₀) (N : News h₀ L s.heap news) (T : Top Mine.hd.view_39 (looseW Mine.hd.view_39 [Str.ofString "BasicError"]) mean mg mb h₀)
    (hret : ∀ t' h' tk', Fr h₀ L h' m → News h₀ L h' news → Q (.int (a + b) t') { s with heap := h', toks := tk' }) :
    wpAny (model PySem.Challenge.rw_xm0053_01.row.prog w) ((Ar dd uu outer).deeper env) (call (.ref 262) [.str (Str.ofString "+") t1, .int a t2, .int b t3, .int 16 t4, .int 9 t5]) Q E s := by
  revert X; k_fill; intro X
  refine wpAny_call ?_
  k_dflt (refine' code_def ?k1 ?k2 ?k3 ?k4 ?k5 ?kA ?kF ?kK ?k6 ?k7 ?k8 ?k9 ?kB ?_ ?c2 ?c3 ?c4 ?c5; (case kA => exact rfl); (case kF => assumption); (case kK => assumption); (case k1 => k_asm); (case k2 => k_asm); (case k3 => k_asm); (case k4 => k_asm); (case k5 => k_asm); (case k6 => k_is); (case k7 => k_is); (case k8 => exact Nat.lt_of_le_of_lt (Nat.succ_le_succ hd) (by decide)); (case k9 => exact BindsTo.of_eq rfl); (case c5 => decide); (case kB => exact locs rfl); (case c2 => exact rfl); (case c3 => exact rfl); (case c4 => exact rfl); k_whole; intro g' L' h' FG' F' N' B' X' T'; (try dsimp only); (try k_lift B'); (try k_fold))
  k_with_none
  (k_with "call ref" => (k_here; k_dflt ((refine' c_is_whole  ?kd ?kf ?kk ?kB ?kF ?kX ?kN ?kT ?_); (case kf => with_unfolding_all rfl); (case kk => with_unfolding_all rfl); (case kB => k_asm); (case kF => k_asm); (case kX => k_asm); (case kN => k_asm); (case kT => k_asm); (case kd => exact Nat.le_trans (Nat.succ_le_succ hd) (by decide)); k_whole; intro h9 tk9 F9 N9; (try dsimp only); (try k_fold))))
  (k_with "call ref" => (k_here; k_dflt ((refine' c_wadd ?b0 ?b1 ?b2 ?b3 ?kd ?kf ?kk ?kB ?kF ?kX ?kN ?kT ?_); (case kf => with_unfolding_all rfl); (case kk => with_unfolding_all rfl); (case kB => k_asm); (case kF => k_asm); (case kX => k_asm); (case kN => k_asm); (case kT => k_asm); (case b0 => omega); (case b1 => omega); (case b2 => omega); (case b3 => omega); (case kd => exact Nat.le_trans (Nat.succ_le_succ hd) (by decide)); k_whole; intro t9 h9 tk9 F9 N9; (try dsimp only); (try k_fold))))
  k_steps
  all_goals (refine hret _ _ _ ?ef ?en; (case ef => k_asm); (case en => first | k_asm | exact cb_drop (by assumption) (fun p hp => by simp only [List.mem_cons] at hp ⊢; simp only [hp, or_true])))
theorem reckoned_mul {a : Int} {t1 t2 t3 t4 t5 : Tok} (ha : 0 ≤ a) (ha2 : a ≤ 100) (hd : dd ≤ 350) (hf : env.frame = some L) (hk : env.scope.kind = .function) (B : Below (Ar dd uu outer) base outer h₀) (F : Fr h₀ L s.heap m) (X : (Mine.hd.heap_39 w.params).In h₀) (N : News h₀ L s.heap news) (T : Top Mine.hd.view_39 (looseW Mine.hd.view_39 [Str.ofString "BasicError"]) mean mg mb h₀)
    (hret : ∀ t' h' tk', Fr h₀ L h' m → News h₀ L h' news → Q (.int (a * 2) t') { s with heap := h', toks := tk' }) :
    wpAny (model PySem.Challenge.rw_xm0053_01.row.prog w) ((Ar dd uu outer).deeper env) (call (.ref 262) [.str (Str.ofString "*") t1, .int a t2, .int 2 t3, .int 16 t4, .int 9 t5]) Q E s := by
  revert X; k_fill; intro X
  refine wpAny_call ?_
  k_dflt (refine' code_def ?k1 ?k2 ?k3 ?k4 ?k5 ?kA ?kF ?kK ?k6 ?k7 ?k8 ?k9 ?kB ?_ ?c2 ?c3 ?c4 ?c5; (case kA => exact rfl); (case kF => assumption); (case kK => assumption); (case k1 => k_asm); (case k2 => k_asm); (case k3 => k_asm); (case k4 => k_asm); (case k5 => k_asm); (case k6 => k_is); (case k7 => k_is); (case k8 => exact Nat.lt_of_le_of_lt (Nat.succ_le_succ hd) (by decide)); (case k9 => exact BindsTo.of_eq rfl); (case c5 => decide); (case kB => exact locs rfl); (case c2 => exact rfl); (case c3 => exact rfl); (case c4 => exact rfl); k_whole; intro g' L' h' FG' F' N' B' X' T'; (try dsimp only); (try k_lift B'); (try k_fold))
  k_with_none
  (k_with "call ref" => (k_here; k_dflt ((refine' c_is_whole  ?kd ?kf ?kk ?kB ?kF ?kX ?kN ?kT ?_); (case kf => with_unfolding_all rfl); (case kk => with_unfolding_all rfl); (case kB => k_asm); (case kF => k_asm); (case kX => k_asm); (case kN => k_asm); (case kT => k_asm); (case kd => exact Nat.le_trans (Nat.succ_le_succ hd) (by decide)); k_whole; intro h9 tk9 F9 N9; (try dsimp only); (try k_fold))))
  (k_with "call ref" => (k_here; k_dflt ((refine' c_wmul ?b0 ?b1 ?kd ?kf ?kk ?kB ?kF ?kX ?kN ?kT ?_); (case kf => with_unfolding_all rfl); (case kk => with_unfolding_all rfl); (case kB => k_asm); (case kF => k_asm); (case kX => k_asm); (case kN => k_asm); (case kT => k_asm); (case b0 => omega); (case b1 => omega); (case kd => exact Nat.le_trans (Nat.succ_le_succ hd) (by decide)); k_whole; intro t9 h9 tk9 F9 N9; (try dsimp only); (try k_fold))))
  k_steps
  all_goals (refine hret _ _ _ ?ef ?en; (case ef => k_asm); (case en => first | k_asm | exact cb_drop (by assumption) (fun p hp => by simp only [List.mem_cons] at hp ⊢; simp only [hp, or_true])))
theorem logic_xor {a b : Int} {t1 t2 t3 t4 : Tok} (h0 : 1 ≤ a) (h1 : a ≤ 12) (h2 : b = 1 ∨ b = 2 ∨ b = 4 ∨ b = 8) (h3 : b ≤ a) (h4 : ¬ 2 * b ≤ a) (hd : dd ≤ 350) (hf : env.frame = some L) (hk : env.scope.kind = .function) (B : Below (Ar dd uu outer) base outer h₀) (F : Fr h₀ L s.heap m) (X : (Mine.hd.heap_39 w.params).In h₀) (N : News h₀ L s.heap news) (T : Top Mine.hd.view_39 (looseW Mine.hd.view_39 [Str.ofString "BasicError"]) mean mg mb h₀)
    (hret : ∀ t' h' tk', Fr h₀ L h' m → News h₀ L h' news → Q (.int (a - b) t') { s with heap := h', toks := tk' }) :
    wpAny (model PySem.Challenge.rw_xm0053_01.row.prog w) ((Ar dd uu outer).deeper env) (call (.ref 269) [.str (Str.ofString "XOR") t1, .int a t2, .int b t3, .int 16 t4]) Q E s := by
  revert X; k_fill; intro X
  refine wpAny_call ?_
  k_dflt (refine' code_def ?k1 ?k2 ?k3 ?k4 ?k5 ?kA ?kF ?kK ?k6 ?k7 ?k8 ?k9 ?kB ?_ ?c2 ?c3 ?c4 ?c5; (case kA => exact rfl); (case kF => assumption); (case kK => assumption); (case k1 => k_asm); (case k2 => k_asm); (case k3 => k_asm); (case k4 => k_asm); (case k5 => k_asm); (case k6 => k_is); (case k7 => k_is); (case k8 => exact Nat.lt_of_le_of_lt (Nat.succ_le_succ hd) (by decide)); (case k9 => exact BindsTo.of_eq rfl); (case c5 => decide); (case kB => exact locs rfl); (case c2 => exact rfl); (case c3 => exact rfl); (case c4 => exact rfl); k_whole; intro g' L' h' FG' F' N' B' X' T'; (try dsimp only); (try k_lift B'); (try k_fold))
  k_with_none
  (k_with "call ref" => (k_here; k_dflt ((refine' c_whole_of ?b0 ?b1 ?kd ?kf ?kk ?kB ?kF ?kX ?kN ?kT ?_); (case kf => with_unfolding_all rfl); (case kk => with_unfolding_all rfl); (case kB => k_asm); (case kF => k_asm); (case kX => k_asm); (case kN => k_asm); (case kT => k_asm); (case b0 => omega); (case b1 => omega); (case kd => exact Nat.le_trans (Nat.succ_le_succ hd) (by decide)); k_whole; intro t9 h9 tk9 F9 N9; (try dsimp only); (try k_fold))))
  (k_with "binaryOp BitXor int int" => (k_here; refine xor_firstW (by assumption) (by assumption) (by assumption) (by assumption) (by assumption) ?_))
  k_steps
  all_goals (refine hret _ _ _ ?ef ?en; (case ef => k_asm); (case en => first | k_asm | exact cb_drop (by assumption) (fun p hp => by simp only [List.mem_cons] at hp ⊢; simp only [hp, or_true])))
end

section
variable {w : World} {mean : ExcName → Option Value} {mg mb : Str → Option Value} {news : List (Addr × Obj)} {dd uu : Nat} {outer : List Env} {env : Env} {base h₀ : Heap} {L : Addr} {m : Str → Option Value} {s : Shared} {Q E : Value → Shared → Prop}
theorem c_size {n : Int} {t1 : Tok} (h0 : 0 ≤ n) (h1 : n ≤ 100) (hd : dd ≤ 450) (hf : env.frame = some L) (hk : env.scope.kind = .function) (B : Below (Ar dd uu outer) base outer h₀) (F : Fr h₀ L s.heap m) (X : (Mine.hd.heap_39 w.params).In h₀) (N : News h₀ L s.heap news) (T : Top Mine.hd.view_39 (looseW Mine.hd.view_39 [Str.ofString "BasicError"]) mean mg mb h₀)
    (hret : ∀ t' h' tk', Fr h₀ L h' m → News h₀ L h' news → Q (.int (n) t') { s with heap := h', toks := tk' }) :
    wpAny (model PySem.Challenge.rw_xm0053_01.row.prog w) ((Ar dd uu outer).deeper env) (call (.ref 107) [.int n t1]) Q E s := by
  revert X; k_fill; intro X
  refine wpAny_call ?_
  k_dflt (refine' code_def ?k1 ?k2 ?k3 ?k4 ?k5 ?kA ?kF ?kK ?k6 ?k7 ?k8 ?k9 ?kB ?_ ?c2 ?c3 ?c4 ?c5; (case kA => exact rfl); (case kF => assumption); (case kK => assumption); (case k1 => k_asm); (case k2 => k_asm); (case k3 => k_asm); (case k4 => k_asm); (case k5 => k_asm); (case k6 => k_is); (case k7 => k_is); (case k8 => exact Nat.lt_of_le_of_lt (Nat.succ_le_succ hd) (by decide)); (case k9 => exact BindsTo.of_eq rfl); (case c5 => decide); (case kB => exact locs rfl); (case c2 => exact rfl); (case c3 => exact rfl); (case c4 => exact rfl); k_whole; intro g' L' h' FG' F' N' B' X' T'; (try dsimp only); (try k_lift B'); (try k_fold))
  k_with_none
  k_steps
  all_goals (refine hret _ _ _ ?ef ?en; (case ef => k_asm); (case en => first | k_asm | exact cb_drop (by assumption) (fun p hp => by simp only [List.mem_cons] at hp ⊢; simp only [hp, or_true])))
theorem c_place {n : Int} {t1 : Tok} (h0 : 1 ≤ n) (h1 : n ≤ 100) (hd : dd ≤ 400) (hf : env.frame = some L) (hk : env.scope.kind = .function) (B : Below (Ar dd uu outer) base outer h₀) (F : Fr h₀ L s.heap m) (X : (Mine.hd.heap_39 w.params).In h₀) (N : News h₀ L s.heap news) (T : Top Mine.hd.view_39 (looseW Mine.hd.view_39 [Str.ofString "BasicError"]) mean mg mb h₀)
    (hret : ∀ t' h' tk', Fr h₀ L h' m → News h₀ L h' news → Q (.int (n) t') { s with heap := h', toks := tk' }) :
    wpAny (model PySem.Challenge.rw_xm0053_01.row.prog w) ((Ar dd uu outer).deeper env) (call (.ref 114) [.int n t1]) Q E s := by
  revert X; k_fill; intro X
  refine wpAny_call ?_
  k_dflt (refine' code_def ?k1 ?k2 ?k3 ?k4 ?k5 ?kA ?kF ?kK ?k6 ?k7 ?k8 ?k9 ?kB ?_ ?c2 ?c3 ?c4 ?c5; (case kA => exact rfl); (case kF => assumption); (case kK => assumption); (case k1 => k_asm); (case k2 => k_asm); (case k3 => k_asm); (case k4 => k_asm); (case k5 => k_asm); (case k6 => k_is); (case k7 => k_is); (case k8 => exact Nat.lt_of_le_of_lt (Nat.succ_le_succ hd) (by decide)); (case k9 => exact BindsTo.of_eq rfl); (case c5 => decide); (case kB => exact locs rfl); (case c2 => exact rfl); (case c3 => exact rfl); (case c4 => exact rfl); k_whole; intro g' L' h' FG' F' N' B' X' T'; (try dsimp only); (try k_lift B'); (try k_fold))
  k_with_none
  (k_with "call ref" => (k_here; k_dflt ((refine' c_size ?b0 ?b1 ?kd ?kf ?kk ?kB ?kF ?kX ?kN ?kT ?_); (case kf => with_unfolding_all rfl); (case kk => with_unfolding_all rfl); (case kB => k_asm); (case kF => k_asm); (case kX => k_asm); (case kN => k_asm); (case kT => k_asm); (case b0 => omega); (case b1 => omega); (case kd => exact Nat.le_trans (Nat.succ_le_succ hd) (by decide)); k_whole; intro t9 h9 tk9 F9 N9; (try dsimp only); (try k_fold))))
  (k_with "ite" => (k_here; (with_reducible show ite ((_ == _) = true) _ _); first | (refine ite_pos (by simp only [beq_iff_eq, decide_eq_decide]; omega) ?_) | (refine ite_neg (by simp only [beq_iff_eq, decide_eq_decide]; omega) ?_)))
  k_steps
  all_goals (refine hret _ _ _ ?ef ?en; (case ef => k_asm); (case en => first | k_asm | exact cb_drop (by assumption) (fun p hp => by simp only [List.mem_cons] at hp ⊢; simp only [hp, or_true])))
theorem c_text_of {x : Str} {t1 : Tok} (hd : dd ≤ 450) (hf : env.frame = some L) (hk : env.scope.kind = .function) (B : Below (Ar dd uu outer) base outer h₀) (F : Fr h₀ L s.heap m) (X : (Mine.hd.heap_39 w.params).In h₀) (N : News h₀ L s.heap news) (T : Top Mine.hd.view_39 (looseW Mine.hd.view_39 [Str.ofString "BasicError"]) mean mg mb h₀)
    (hret : ∀ t' h' tk', Fr h₀ L h' m → News h₀ L h' news → Q (.str (x) t') { s with heap := h', toks := tk' }) :
    wpAny (model PySem.Challenge.rw_xm0053_01.row.prog w) ((Ar dd uu outer).deeper env) (call (.ref 93) [.str x t1]) Q E s := by
  revert X; k_fill; intro X
  refine wpAny_call ?_
  k_dflt (refine' code_def ?k1 ?k2 ?k3 ?k4 ?k5 ?kA ?kF ?kK ?k6 ?k7 ?k8 ?k9 ?kB ?_ ?c2 ?c3 ?c4 ?c5; (case kA => exact rfl); (case kF => assumption); (case kK => assumption); (case k1 => k_asm); (case k2 => k_asm); (case k3 => k_asm); (case k4 => k_asm); (case k5 => k_asm); (case k6 => k_is); (case k7 => k_is); (case k8 => exact Nat.lt_of_le_of_lt (Nat.succ_le_succ hd) (by decide)); (case k9 => exact BindsTo.of_eq rfl); (case c5 => decide); (case kB => exact locs rfl); (case c2 => exact rfl); (case c3 => exact rfl); (case c4 => exact rfl); k_whole; intro g' L' h' FG' F' N' B' X' T'; (try dsimp only); (try k_lift B'); (try k_fold))
  k_with_none
  k_steps
  all_goals (refine hret _ _ _ ?ef ?en; (case ef => k_asm); (case en => first | k_asm | exact cb_drop (by assumption) (fun p hp => by simp only [List.mem_cons] at hp ⊢; simp only [hp, or_true])))
theorem c_checked {x : Str} {t1 : Tok} (h : x.length ≤ 128) (hd : dd ≤ 450) (hf : env.frame = some L) (hk : env.scope.kind = .function) (B : Below (Ar dd uu outer) base outer h₀) (F : Fr h₀ L s.heap m) (X : (Mine.hd.heap_39 w.params).In h₀) (N : News h₀ L s.heap news) (T : Top Mine.hd.view_39 (looseW Mine.hd.view_39 [Str.ofString "BasicError"]) mean mg mb h₀)
    (hret : ∀ t' h' tk', Fr h₀ L h' m → News h₀ L h' news → Q (.str (x) t') { s with heap := h', toks := tk' }) :
    wpAny (model PySem.Challenge.rw_xm0053_01.row.prog w) ((Ar dd uu outer).deeper env) (call (.ref 100) [.str x t1]) Q E s := by
  revert X; k_fill; intro X
  refine wpAny_call ?_
  k_dflt (refine' code_def ?k1 ?k2 ?k3 ?k4 ?k5 ?kA ?kF ?kK ?k6 ?k7 ?k8 ?k9 ?kB ?_ ?c2 ?c3 ?c4 ?c5; (case kA => exact rfl); (case kF => assumption); (case kK => assumption); (case k1 => k_asm); (case k2 => k_asm); (case k3 => k_asm); (case k4 => k_asm); (case k5 => k_asm); (case k6 => k_is); (case k7 => k_is); (case k8 => exact Nat.lt_of_le_of_lt (Nat.succ_le_succ hd) (by decide)); (case k9 => exact BindsTo.of_eq rfl); (case c5 => decide); (case kB => exact locs rfl); (case c2 => exact rfl); (case c3 => exact rfl); (case c4 => exact rfl); k_whole; intro g' L' h' FG' F' N' B' X' T'; (try dsimp only); (try k_lift B'); (try k_fold))
  k_with_none
  k_steps
  all_goals (refine hret _ _ _ ?ef ?en; (case ef => k_asm); (case en => first | k_asm | exact cb_drop (by assumption) (fun p hp => by simp only [List.mem_cons] at hp ⊢; simp only [hp, or_true])))
theorem mid_two {x : Str} {l : Addr} {t1 t2 : Tok} {n : Nat} (hx : x.length ≤ 64) (hd : dd ≤ 350) (hf : env.frame = some L) (hk : env.scope.kind = .function) (B : Below (Ar dd uu outer) base outer h₀) (F : Fr h₀ L s.heap m) (X : (Mine.hd.heap_39 w.params).In h₀) (N : News h₀ L s.heap ((l, listOf #[.str x t1, .int 2 t2] n) :: news)) (T : Top Mine.hd.view_39 (looseW Mine.hd.view_39 [Str.ofString "BasicError"]) mean mg mb h₀)
    (hret : ∀ t' h' tk', Fr h₀ L h' m → News h₀ L h' ((l, listOf #[.str x t1, .int 2 t2] n) :: news) → Q (.str (Txt.slice x (some 1) (some 256)) t') { s with heap := h', toks := tk' }) :
    wpAny (model PySem.Challenge.rw_xm0053_01.row.prog w) ((Ar dd uu outer).deeper env) (call (.ref 128) [.none, .ref l]) Q E s := by
  revert X; k_fill; intro X
  refine wpAny_call ?_
  k_dflt (refine' code_def ?k1 ?k2 ?k3 ?k4 ?k5 ?kA ?kF ?kK ?k6 ?k7 ?k8 ?k9 ?kB ?_ ?c2 ?c3 ?c4 ?c5; (case kA => exact rfl); (case kF => assumption); (case kK => assumption); (case k1 => k_asm); (case k2 => k_asm); (case k3 => k_asm); (case k4 => k_asm); (case k5 => k_asm); (case k6 => k_is); (case k7 => k_is); (case k8 => exact Nat.lt_of_le_of_lt (Nat.succ_le_succ hd) (by decide)); (case k9 => exact BindsTo.of_eq rfl); (case c5 => decide); (case kB => exact locs rfl); (case c2 => exact rfl); (case c3 => exact rfl); (case c4 => exact rfl); k_whole; intro g' L' h' FG' F' N' B' X' T'; (try dsimp only); (try k_lift B'); (try k_fold))
  k_with_none
  (k_with "call ref" => (k_here; k_dflt ((refine' c_text_of  ?kd ?kf ?kk ?kB ?kF ?kX ?kN ?kT ?_); (case kf => with_unfolding_all rfl); (case kk => with_unfolding_all rfl); (case kB => k_asm); (case kF => k_asm); (case kX => k_asm); (case kN => k_asm); (case kT => k_asm); (case kd => exact Nat.le_trans (Nat.succ_le_succ hd) (by decide)); k_whole; intro t9 h9 tk9 F9 N9; (try dsimp only); (try k_fold))))
  (k_with "call ref" => (k_here; k_dflt ((refine' c_size ?b0 ?b1 ?kd ?kf ?kk ?kB ?kF ?kX ?kN ?kT ?_); (case kf => with_unfolding_all rfl); (case kk => with_unfolding_all rfl); (case kB => k_asm); (case kF => k_asm); (case kX => k_asm); (case kN => k_asm); (case kT => k_asm); (case b0 => omega); (case b1 => omega); (case kd => exact Nat.le_trans (Nat.succ_le_succ hd) (by decide)); k_whole; intro t9 h9 tk9 F9 N9; (try dsimp only); (try k_fold))))
  (k_with "call ref" => (k_here; k_dflt ((refine' c_place ?b0 ?b1 ?kd ?kf ?kk ?kB ?kF ?kX ?kN ?kT ?_); (case kf => with_unfolding_all rfl); (case kk => with_unfolding_all rfl); (case kB => k_asm); (case kF => k_asm); (case kX => k_asm); (case kN => k_asm); (case kT => k_asm); (case b0 => omega); (case b1 => omega); (case kd => exact Nat.le_trans (Nat.succ_le_succ hd) (by decide)); k_whole; intro t9 h9 tk9 F9 N9; (try dsimp only); (try k_fold))))
  k_steps
  all_goals (refine hret _ _ _ ?ef ?en; (case ef => k_asm); (case en => first | k_asm | exact cb_drop (by assumption) (fun p hp => by simp only [List.mem_cons] at hp ⊢; simp only [hp, or_true])))
theorem left_one {x : Str} {l : Addr} {t1 t2 : Tok} {n : Nat} (hx : x.length ≤ 64) (hd : dd ≤ 350) (hf : env.frame = some L) (hk : env.scope.kind = .function) (B : Below (Ar dd uu outer) base outer h₀) (F : Fr h₀ L s.heap m) (X : (Mine.hd.heap_39 w.params).In h₀) (N : News h₀ L s.heap ((l, listOf #[.str x t1, .int 1 t2] n) :: news)) (T : Top Mine.hd.view_39 (looseW Mine.hd.view_39 [Str.ofString "BasicError"]) mean mg mb h₀)
    (hret : ∀ t' h' tk', Fr h₀ L h' m → News h₀ L h' ((l, listOf #[.str x t1, .int 1 t2] n) :: news) → Q (.str (Txt.slice x none (some 1)) t') { s with heap := h', toks := tk' }) :
    wpAny (model PySem.Challenge.rw_xm0053_01.row.prog w) ((Ar dd uu outer).deeper env) (call (.ref 121) [.none, .ref l]) Q E s := by
  revert X; k_fill; intro X
  refine wpAny_call ?_
  k_dflt (refine' code_def ?k1 ?k2 ?k3 ?k4 ?k5 ?kA ?kF ?kK ?k6 ?k7 ?k8 ?k9 ?kB ?_ ?c2 ?c3 ?c4 ?c5; (case kA => exact rfl); (case kF => assumption); (case kK => assumption); (case k1 => k_asm); (case k2 => k_asm); (case k3 => k_asm); (case k4 => k_asm); (case k5 => k_asm); (case k6 => k_is); (case k7 => k_is); (case k8 => exact Nat.lt_of_le_of_lt (Nat.succ_le_succ hd) (by decide)); (case k9 => exact BindsTo.of_eq rfl); (case c5 => decide); (case kB => exact locs rfl); (case c2 => exact rfl); (case c3 => exact rfl); (case c4 => exact rfl); k_whole; intro g' L' h' FG' F' N' B' X' T'; (try dsimp only); (try k_lift B'); (try k_fold))
  k_with_none
  (k_with "call ref" => (k_here; k_dflt ((refine' c_text_of  ?kd ?kf ?kk ?kB ?kF ?kX ?kN ?kT ?_); (case kf => with_unfolding_all rfl); (case kk => with_unfolding_all rfl); (case kB => k_asm); (case kF => k_asm); (case kX => k_asm); (case kN => k_asm); (case kT => k_asm); (case kd => exact Nat.le_trans (Nat.succ_le_succ hd) (by decide)); k_whole; intro t9 h9 tk9 F9 N9; (try dsimp only); (try k_fold))))
  (k_with "call ref" => (k_here; k_dflt ((refine' c_size ?b0 ?b1 ?kd ?kf ?kk ?kB ?kF ?kX ?kN ?kT ?_); (case kf => with_unfolding_all rfl); (case kk => with_unfolding_all rfl); (case kB => k_asm); (case kF => k_asm); (case kX => k_asm); (case kN => k_asm); (case kT => k_asm); (case b0 => omega); (case b1 => omega); (case kd => exact Nat.le_trans (Nat.succ_le_succ hd) (by decide)); k_whole; intro t9 h9 tk9 F9 N9; (try dsimp only); (try k_fold))))
  (k_with "call ref" => (k_here; k_dflt ((refine' c_place ?b0 ?b1 ?kd ?kf ?kk ?kB ?kF ?kX ?kN ?kT ?_); (case kf => with_unfolding_all rfl); (case kk => with_unfolding_all rfl); (case kB => k_asm); (case kF => k_asm); (case kX => k_asm); (case kN => k_asm); (case kT => k_asm); (case b0 => omega); (case b1 => omega); (case kd => exact Nat.le_trans (Nat.succ_le_succ hd) (by decide)); k_whole; intro t9 h9 tk9 F9 N9; (try dsimp only); (try k_fold))))
  k_steps
  all_goals (refine hret _ _ _ ?ef ?en; (case ef => k_asm); (case en => first | k_asm | exact cb_drop (by assumption) (fun p hp => by simp only [List.mem_cons] at hp ⊢; simp only [hp, or_true])))
theorem mid_three {b : Int} {t3 : Tok} {x : Str} {l : Addr} {t1 t2 : Tok} {n : Nat} (hx : x.length ≤ 64) (hb : 1 ≤ b) (hb2 : b ≤ 64) (hd : dd ≤ 350) (hf : env.frame = some L) (hk : env.scope.kind = .function) (B : Below (Ar dd uu outer) base outer h₀) (F : Fr h₀ L s.heap m) (X : (Mine.hd.heap_39 w.params).In h₀) (N : News h₀ L s.heap ((l, listOf #[.str x t1, .int b t2, .int 1 t3] n) :: news)) (T : Top Mine.hd.view_39 (looseW Mine.hd.view_39 [Str.ofString "BasicError"]) mean mg mb h₀)
    (hret : ∀ t' h' tk', Fr h₀ L h' m → News h₀ L h' ((l, listOf #[.str x t1, .int b t2, .int 1 t3] n) :: news) → Q (.str (Txt.slice x (some (b - 1)) (some (b - 1 + 1))) t') { s with heap := h', toks := tk' }) :
    wpAny (model PySem.Challenge.rw_xm0053_01.row.prog w) ((Ar dd uu outer).deeper env) (call (.ref 128) [.none, .ref l]) Q E s := by
  revert X; k_fill; intro X
  refine wpAny_call ?_
  k_dflt (refine' code_def ?k1 ?k2 ?k3 ?k4 ?k5 ?kA ?kF ?kK ?k6 ?k7 ?k8 ?k9 ?kB ?_ ?c2 ?c3 ?c4 ?c5; (case kA => exact rfl); (case kF => assumption); (case kK => assumption); (case k1 => k_asm); (case k2 => k_asm); (case k3 => k_asm); (case k4 => k_asm); (case k5 => k_asm); (case k6 => k_is); (case k7 => k_is); (case k8 => exact Nat.lt_of_le_of_lt (Nat.succ_le_succ hd) (by decide)); (case k9 => exact BindsTo.of_eq rfl); (case c5 => decide); (case kB => exact locs rfl); (case c2 => exact rfl); (case c3 => exact rfl); (case c4 => exact rfl); k_whole; intro g' L' h' FG' F' N' B' X' T'; (try dsimp only); (try k_lift B'); (try k_fold))
  k_with_none
  (k_with "call ref" => (k_here; k_dflt ((refine' c_text_of  ?kd ?kf ?kk ?kB ?kF ?kX ?kN ?kT ?_); (case kf => with_unfolding_all rfl); (case kk => with_unfolding_all rfl); (case kB => k_asm); (case kF => k_asm); (case kX => k_asm); (case kN => k_asm); (case kT => k_asm); (case kd => exact Nat.le_trans (Nat.succ_le_succ hd) (by decide)); k_whole; intro t9 h9 tk9 F9 N9; (try dsimp only); (try k_fold))))
  (k_with "call ref" => (k_here; k_dflt ((refine' c_size ?b0 ?b1 ?kd ?kf ?kk ?kB ?kF ?kX ?kN ?kT ?_); (case kf => with_unfolding_all rfl); (case kk => with_unfolding_all rfl); (case kB => k_asm); (case kF => k_asm); (case kX => k_asm); (case kN => k_asm); (case kT => k_asm); (case b0 => omega); (case b1 => omega); (case kd => exact Nat.le_trans (Nat.succ_le_succ hd) (by decide)); k_whole; intro t9 h9 tk9 F9 N9; (try dsimp only); (try k_fold))))
  (k_with "call ref" => (k_here; k_dflt ((refine' c_place ?b0 ?b1 ?kd ?kf ?kk ?kB ?kF ?kX ?kN ?kT ?_); (case kf => with_unfolding_all rfl); (case kk => with_unfolding_all rfl); (case kB => k_asm); (case kF => k_asm); (case kX => k_asm); (case kN => k_asm); (case kT => k_asm); (case b0 => omega); (case b1 => omega); (case kd => exact Nat.le_trans (Nat.succ_le_succ hd) (by decide)); k_whole; intro t9 h9 tk9 F9 N9; (try dsimp only); (try k_fold))))
  k_steps
  all_goals (refine hret _ _ _ ?ef ?en; (case ef => k_asm); (case en => first | k_asm | exact cb_drop (by assumption) (fun p hp => by simp only [List.mem_cons] at hp ⊢; simp only [hp, or_true])))
theorem joined {x y : Str} {t1 t2 : Tok} (hx : x.length ≤ 64) (hy : y.length ≤ 64) (hd : dd ≤ 350) (hf : env.frame = some L) (hk : env.scope.kind = .function) (B : Below (Ar dd uu outer) base outer h₀) (F : Fr h₀ L s.heap m) (X : (Mine.hd.heap_39 w.params).In h₀) (N : News h₀ L s.heap news) (T : Top Mine.hd.view_39 (looseW Mine.hd.view_39 [Str.ofString "BasicError"]) mean mg mb h₀)
    (hret : ∀ t' h' tk', Fr h₀ L h' m → News h₀ L h' news → Q (.str (x ++ y) t') { s with heap := h', toks := tk' }) :
    wpAny (model PySem.Challenge.rw_xm0053_01.row.prog w) ((Ar dd uu outer).deeper env) (call (.ref 135) [.str x t1, .str y t2]) Q E s := by
  revert X; k_fill; intro X
  refine wpAny_call ?_
  k_dflt (refine' code_def ?k1 ?k2 ?k3 ?k4 ?k5 ?kA ?kF ?kK ?k6 ?k7 ?k8 ?k9 ?kB ?_ ?c2 ?c3 ?c4 ?c5; (case kA => exact rfl); (case kF => assumption); (case kK => assumption); (case k1 => k_asm); (case k2 => k_asm); (case k3 => k_asm); (case k4 => k_asm); (case k5 => k_asm); (case k6 => k_is); (case k7 => k_is); (case k8 => exact Nat.lt_of_le_of_lt (Nat.succ_le_succ hd) (by decide)); (case k9 => exact BindsTo.of_eq rfl); (case c5 => decide); (case kB => exact locs rfl); (case c2 => exact rfl); (case c3 => exact rfl); (case c4 => exact rfl); k_whole; intro g' L' h' FG' F' N' B' X' T'; (try dsimp only); (try k_lift B'); (try k_fold))
  k_with_none
  (k_with "call ref" => (k_here; k_dflt ((refine' c_text_of  ?kd ?kf ?kk ?kB ?kF ?kX ?kN ?kT ?_); (case kf => with_unfolding_all rfl); (case kk => with_unfolding_all rfl); (case kB => k_asm); (case kF => k_asm); (case kX => k_asm); (case kN => k_asm); (case kT => k_asm); (case kd => exact Nat.le_trans (Nat.succ_le_succ hd) (by decide)); k_whole; intro t9 h9 tk9 F9 N9; (try dsimp only); (try k_fold))))
  (k_with "call ref" => (k_here; k_dflt ((refine' c_checked ?b0 ?kd ?kf ?kk ?kB ?kF ?kX ?kN ?kT ?_); (case kf => with_unfolding_all rfl); (case kk => with_unfolding_all rfl); (case kB => k_asm); (case kF => k_asm); (case kX => k_asm); (case kN => k_asm); (case kT => k_asm); (case b0 => (rw [PySem.Str.length_append]; omega)); (case kd => exact Nat.le_trans (Nat.succ_le_succ hd) (by decide)); k_whole; intro t9 h9 tk9 F9 N9; (try dsimp only); (try k_fold))))
  k_steps
  all_goals (refine hret _ _ _ ?ef ?en; (case ef => k_asm); (case en => first | k_asm | exact cb_drop (by assumption) (fun p hp => by simp only [List.mem_cons] at hp ⊢; simp only [hp, or_true])))
end

def josL (many : Int) (pre : List Int) : List Int := pre.foldl (fun f k => f ++ [(f.getLastD 0 + many) % k]) [0, 0]
structure PInv (many : Int) (pre found : List Int) : Prop where
  is : found = josL many pre
  len : found.length = pre.length + 2
  bnd : ∀ v ∈ found, 0 ≤ v ∧ v < 64
theorem PInv.start (many : Int) : PInv many [] [0, 0] := ⟨rfl, rfl, by decide⟩
theorem PInv.turn {many k : Int} {pre found : List Int} (h : PInv many pre found) (h0 : 0 < k) (h1 : k ≤ 41) : PInv many (pre ++ [k]) (found ++ [(found.getLastD 0 + many) % k]) := by
  obtain ⟨e, l, b⟩ := h
  subst e
  refine ⟨?_, ?_, ?_⟩
  · unfold josL; rw [List.foldl_append]; rfl
  · simp only [List.length_append, List.length_cons, List.length_nil, l]
  · intro v hv
    rcases List.mem_append.mp hv with hv | hv
    · exact b v hv
    · rw [List.mem_singleton.mp hv]
      have h2 := Int.emod_nonneg ((josL many pre).getLastD 0 + many) (show k ≠ 0 by omega)
      have h3 := Int.emod_lt_of_pos ((josL many pre).getLastD 0 + many) h0
      omega
theorem getLastD_mem {d : Int} : ∀ {l : List Int}, 0 < l.length → l.getLastD d ∈ l
  | [], h => absurd h (Nat.lt_irrefl 0)
  | [a], _ => List.mem_singleton.mpr rfl
  | a :: b :: l, _ => List.mem_cons_of_mem a (getLastD_mem (d := a) (l := b :: l) (Nat.succ_pos _))
theorem last_found {prog : Program} {w : World} {A : Around} {E : Value → Shared → Prop} {s : Shared} {value slice : PySem.Expr} {l : Addr} {us : List Value} {ns pre : List Int} {c : Nat} {u : Tok} {Q : Value → Shared → Prop} {h₀ : Heap} {L : Addr} {news : List (Addr × Obj)} {many : Int}
    (N : News h₀ L s.heap news) (hm : (l, listOf us.toArray c) ∈ news) (hi : IntsAre us ns) (inv : PInv many pre ns)
    (h : ∀ t, 0 ≤ ns.getLastD 0 → ns.getLastD 0 < 64 → Q (.int (ns.getLastD 0) t) s)
    (hs : subscripted slice false (.ref l) (.int (-1) u) = operate [.ref l, .int (-1) u] (getItem (.ref l) (.int (-1) u)) := by with_unfolding_all rfl) :
    wpAny (model prog w) A (subscriptTail value slice (.ref l) (.int (-1) u)) Q E s := by
  have hl : s.heap.IsList l us.toArray := ⟨_, (N _ hm).1, rfl, c, rfl⟩
  have hlen := IntsAre.length hi
  have hpos : 0 < us.length := by rw [hlen, inv.len]; omega
  obtain ⟨y, t, e1, e2, _⟩ := kpa_ints hi hpos
  have hb := inv.bnd _ (getLastD_mem (d := 0) (by rw [inv.len]; omega : 0 < ns.length))
  refine kde_neg (j := us.length - 1) (v := .int (ns.getLastD 0) t) hl (by decide) (by decide) ?_ ?_ (h t hb.1 hb.2) hs
  · have h3 : (-1 + (us.length : Int)).toNat = us.length - 1 := by omega
    rw [← h3]
    exact PySem.StrLaws.seqIndex_neg (by decide) (by omega)
  · rw [← e2]
    generalize us.dropLast = p at e1
    subst e1
    simp
section
variable {w : World} {mean : ExcName → Option Value} {mg mb : Str → Option Value} {news : List (Addr × Obj)} {dd uu : Nat} {outer : List Env} {env : Env} {base h₀ : Heap} {L : Addr} {m : Str → Option Value} {s : Shared} {Q E : Value → Shared → Prop}
theorem places_spec {most many : Int} {t u : Tok} (h1 : 1 ≤ most) (h2 : most ≤ 41) (h3 : 0 ≤ many) (h4 : many ≤ 3) (hf : env.frame = some L) (hk : env.scope.kind = .function) (B : Below callerA base [] h₀) (F : Fr h₀ L s.heap m) (X : (Mine.hd.heap_39 w.params).In h₀) (N : News h₀ L s.heap news) (T : Top Mine.hd.view_39 (looseW Mine.hd.view_39 [Str.ofString "BasicError"]) mean mg mb h₀)
    (hret : ∀ a vs n h' tk', IntsAre vs (josL many (rangeKs 2 (most - 1).toNat)) → (∀ p ∈ news, p.1 < a) → Fr h₀ L h' m → News h₀ L h' ((a, listOf vs.toArray n) :: news) → Q (.ref a) { s with heap := h', toks := tk' }) :
    wpAny (model PySem.Challenge.rw_xm0053_01.row.prog w) (callerA.deeper env) (call (.ref 283) [.int most t, .int many u]) Q E s := by
  revert X; k_fill; intro X
  refine wpAny_call ?_
  k_dflt (refine' code_def ?k1 ?k2 ?k3 ?k4 ?k5 ?kA ?kF ?kK ?k6 ?k7 ?k8 ?k9 ?kB ?_ ?c2 ?c3 ?c4 ?c5; (case kA => exact rfl); (case kF => assumption); (case kK => assumption); (case k1 => k_asm); (case k2 => k_asm); (case k3 => k_asm); (case k4 => k_asm); (case k5 => k_asm); (case k6 => k_is); (case k7 => k_is); (case k8 => k_room); (case k9 => exact BindsTo.of_eq rfl); (case c5 => decide); (case kB => exact locs rfl); (case c2 => exact rfl); (case c3 => exact rfl); (case c4 => exact rfl); k_whole; intro g' L' h' FG' F' N' B' X' T'; (try dsimp only); (try k_lift B'); (try k_fold))
  k_with_none
  (k_with "call ref" => (k_here; k_dflt ((refine' reckoned_add ?b0 ?b1 ?b2 ?b3 ?kd ?kf ?kk ?kB ?kF ?kX ?kN ?kT ?_); (case kf => with_unfolding_all rfl); (case kk => with_unfolding_all rfl); (case kB => k_asm); (case kF => k_asm); (case kX => k_asm); (case kN => k_asm); (case kT => k_asm); (case b0 => omega); (case b1 => omega); (case b2 => omega); (case b3 => omega); (case kd => exact Nat.le_of_ble_eq_true rfl); k_whole; intro t9 h9 tk9 F9 N9; (try dsimp only); (try k_fold))))
  (k_with "call ref" => (k_here; k_dflt ((refine' reckoned_mod ?b0 ?b1 ?b2 ?b3 ?kd ?kf ?kk ?kB ?kF ?kX ?kN ?kT ?_); (case kf => with_unfolding_all rfl); (case kk => with_unfolding_all rfl); (case kB => k_asm); (case kF => k_asm); (case kX => k_asm); (case kN => k_asm); (case kT => k_asm); (case b0 => omega); (case b1 => omega); (case b2 => omega); (case b3 => omega); (case kd => exact Nat.le_of_ble_eq_true rfl); k_whole; intro t9 h9 tk9 F9 N9; (try dsimp only); (try k_fold))))
  (k_with "pyIter ref" => (k_here; (with_reducible refine Halt.out ?_)))
  (k_with "subscriptTail Name UnaryOp ref int" => (k_here; (with_reducible show wpAny _ _ (subscriptTail _ _ (Value.ref _) (Value.int (-1) _)) _ _ _); (with_unfolding_all refine' last_found ?qN ?qm ?qi ?qv ?_; (case qN => k_asm); (case qm => k_memK); (case qi => assumption); (case qv => assumption); k_whole); intro t9 hx0 hx1))
  (k_with "state" => exact Mine.PInv.turn (by assumption) (by omega) (by omega))
  k_steps
  refine Halt.mk ?_
  rename Fr _ _ _ _ => lF'
  rename News _ _ _ _ => lN'
  rename IsRange _ _ _ _ _ _ _ _ => rgX
  refine' kst_range (σ := List Value × List Int × Nat) (fun c => (_, listOf c.1.toArray c.2.2) :: news) (fun _ => []) (fun c => IntsAre c.1 c.2.1) [] (fun pre c => PInv many pre c.2.1) ([.int 0 _, .int 0 _], [0, 0], 0) ?hh rgX ?hs ?hn lF' ?N ?hf ?hk ?hp ?turn ?done
  (case hh => rfl)
  (case hs => exact small_one (by omega) (by omega) (by omega) (by omega))
  (case hn => exact rangeSize_nat _ _)
  (case N => exact lN')
  (case hf => exact .cons _ _ (.cons _ _ .nil))
  (case hk => exact fun _ h => nomatch h)
  (case hp => exact PInv.start _)
  case done =>
    rintro ⟨vs, ns, nn⟩ u h tk kFacts kInv kFr kNews
    have kMk := kstMark
    dsimp only [kstB] at kFr kNews kFacts kInv
    have e8 : most + 1 - 2 = most - 1 := by omega
    rw [e8] at kInv
    clear lF' lN' rgX
    k_steps
    all_goals (refine hret _ vs nn _ _ (by rw [← kInv.is]; exact kFacts) (by assumption) ?ef ?en; (case ef => k_asm); (case en => first | k_asm | exact cb_drop (by assumption) (fun p hp => by simp only [List.mem_cons] at hp ⊢; simp only [hp, or_true])))
  case turn =>
    rintro ⟨vs, ns, nn⟩ pre k t u h tk own kEq kLt kOff kFacts kInv kFr kNews
    have kMk := kstMark
    dsimp only [kstB] at kFr kNews kFacts kInv kOff
    simp only [List.cons_append] at kNews
    have kk1 : 2 ≤ k := by omega
    have kk2 : k ≤ 41 := by omega
    clear lF' lN' rgX
    try k_fold
    have hz9 : vs.toArray.size ≤ sizeLine := by
      have h8 := IntsAre.length kFacts
      have h7 := kInv.len
      rw [List.size_toArray, PySem.sizeLine_eq]; omega
    k_steps
end

def turn1 (x : Str) : Str := Txt.slice x (some 1) (some 256) ++ Txt.slice x none (some 1)
def round2 (x : Str) : Str := Txt.slice (turn1 x) (some 1) (some 256)
def round3 (x : Str) : Str := Txt.slice (turn1 (turn1 x)) (some 1) (some 256)
theorem len_turn (x : Str) (a b c d : Option Int) : (Txt.slice x a b ++ Txt.slice x c d).length ≤ 2 * x.length := by
  rw [PySem.Str.length_append]
  have h1 := Txt.slice_le x a b
  have h2 := Txt.slice_le x c d
  omega
def turnN : Nat → Str → Str
  | 0, x => x
  | n + 1, x => turn1 (turnN n x)
def roundF (many : Int) (x : Str) : Str := Txt.slice (turnN (many - 1).toNat x) (some 1) (some 256)
structure RInv (x : Str) (pre : List Int) (y : Str) : Prop where
  is : y = turnN pre.length x
  len : y.length ≤ 2 ^ pre.length * x.length
theorem RInv.start (x : Str) : RInv x [] x := ⟨rfl, by simp⟩
theorem RInv.turn {x y : Str} {pre : List Int} {k : Int} (h : RInv x pre y) : RInv x (pre ++ [k]) (Txt.slice y (some 1) (some 256) ++ Txt.slice y none (some 1)) := by
  obtain ⟨e, l⟩ := h
  subst e
  have hl : (pre ++ [k]).length = pre.length + 1 := by simp
  refine ⟨?_, ?_⟩
  · rw [hl]; rfl
  · rw [hl, Nat.pow_succ]
    refine Nat.le_trans (len_turn _ _ _ _ _) ?_
    rw [Nat.mul_comm (2 ^ pre.length) 2, Nat.mul_assoc]
    exact Nat.mul_le_mul_left 2 l
theorem RInv.small2 {x y : Str} {pre : List Int} (h : RInv x pre y) (hx : x.length ≤ 12) (hp : pre.length ≤ 2) : y.length ≤ 48 := by
  have h1 := h.len
  have h2 : 2 ^ pre.length ≤ 2 ^ 2 := Nat.pow_le_pow_right (by decide) hp
  have h3 : 2 ^ pre.length * x.length ≤ 4 * 12 := Nat.mul_le_mul h2 hx
  omega
theorem RInv.small {x y : Str} {pre : List Int} (h : RInv x pre y) (hx : x.length ≤ 12) (hp : pre.length ≤ 1) : y.length ≤ 24 := by
  have h1 := h.len
  rcases pre with _ | ⟨a, _ | ⟨b, r⟩⟩
  · simp at h1; omega
  · simp at h1; omega
  · simp at hp
section
variable {w : World} {mean : ExcName → Option Value} {mg mb : Str → Option Value} {news : List (Addr × Obj)} {dd uu : Nat} {outer : List Env} {env : Env} {base h₀ : Heap} {L : Addr} {m : Str → Option Value} {s : Shared} {Q E : Value → Shared → Prop}
theorem round_spec {x : Str} {many : Int} {t1 t2 : Tok} (hx : x.length ≤ 12) (hm : 1 ≤ many) (hm3 : many ≤ 3) (hf : env.frame = some L) (hk : env.scope.kind = .function) (B : Below callerA base [] h₀) (F : Fr h₀ L s.heap m) (X : (Mine.hd.heap_39 w.params).In h₀) (N : News h₀ L s.heap news) (T : Top Mine.hd.view_39 (looseW Mine.hd.view_39 [Str.ofString "BasicError"]) mean mg mb h₀)
    (hret : ∀ t' h' tk', Fr h₀ L h' m → News h₀ L h' news → Q (.str (roundF many x) t') { s with heap := h', toks := tk' }) :
    wpAny (model PySem.Challenge.rw_xm0053_01.row.prog w) (callerA.deeper env) (call (.ref 290) [.str x t1, .int many t2]) Q E s := by
  revert X; k_fill; intro X
  refine wpAny_call ?_
  k_dflt (refine' code_def ?k1 ?k2 ?k3 ?k4 ?k5 ?kA ?kF ?kK ?k6 ?k7 ?k8 ?k9 ?kB ?_ ?c2 ?c3 ?c4 ?c5; (case kA => exact rfl); (case kF => assumption); (case kK => assumption); (case k1 => k_asm); (case k2 => k_asm); (case k3 => k_asm); (case k4 => k_asm); (case k5 => k_asm); (case k6 => k_is); (case k7 => k_is); (case k8 => k_room); (case k9 => exact BindsTo.of_eq rfl); (case c5 => decide); (case kB => exact locs rfl); (case c2 => exact rfl); (case c3 => exact rfl); (case c4 => exact rfl); k_whole; intro g' L' h' FG' F' N' B' X' T'; (try dsimp only); (try k_lift B'); (try k_fold))
  k_with_none
  (k_with "call ref" => (k_here; k_dflt ((refine' joined ?b0 ?b1 ?kd ?kf ?kk ?kB ?kF ?kX ?kN ?kT ?_); (case kf => with_unfolding_all rfl); (case kk => with_unfolding_all rfl); (case kB => k_asm); (case kF => k_asm); (case kX => k_asm); (case kN => k_asm); (case kT => k_asm); (case b0 => (first | omega | with_reducible exact Nat.le_trans (Txt.slice_le _ _ _) (by omega) | with_reducible exact Nat.le_trans (len_turn _ _ _ _ _) (by omega))); (case b1 => (first | omega | with_reducible exact Nat.le_trans (Txt.slice_le _ _ _) (by omega) | with_reducible exact Nat.le_trans (len_turn _ _ _ _ _) (by omega))); (case kd => exact Nat.le_of_ble_eq_true rfl); k_whole; intro t9 h9 tk9 F9 N9; (try dsimp only); (try k_fold))))
  (k_with "call ref" => (k_here; k_dflt ((refine' left_one ?b0 ?kd ?kf ?kk ?kB ?kF ?kX ?kN ?kT ?_); (case kf => with_unfolding_all rfl); (case kk => with_unfolding_all rfl); (case kB => k_asm); (case kF => k_asm); (case kX => k_asm); (case kN => k_asm); (case kT => k_asm); (case b0 => (first | omega | with_reducible exact Nat.le_trans (Txt.slice_le _ _ _) (by omega) | with_reducible exact Nat.le_trans (len_turn _ _ _ _ _) (by omega))); (case kd => exact Nat.le_of_ble_eq_true rfl); k_whole; intro t9 h9 tk9 F9 N9; (try dsimp only); (try k_fold))))
  (k_with "call ref" => (k_here; k_dflt ((refine' mid_two ?b0 ?kd ?kf ?kk ?kB ?kF ?kX ?kN ?kT ?_); (case kf => with_unfolding_all rfl); (case kk => with_unfolding_all rfl); (case kB => k_asm); (case kF => k_asm); (case kX => k_asm); (case kN => k_asm); (case kT => k_asm); (case b0 => (first | omega | with_reducible exact Nat.le_trans (Txt.slice_le _ _ _) (by omega) | with_reducible exact Nat.le_trans (len_turn _ _ _ _ _) (by omega))); (case kd => exact Nat.le_of_ble_eq_true rfl); k_whole; intro t9 h9 tk9 F9 N9; (try dsimp only); (try k_fold))))
  (k_with "pyIter ref" => (k_here; (with_reducible refine Halt.out ?_)))
  (k_with "exec For Name Call cons nil" => (k_here; (rename Fr _ _ _ _ => lF'); (with_unfolding_all refine' For_invVF lF' ?k1 ?k2 ?_; (case k1 => exact rfl); (case k2 => exact rfl); k_whole)))
  k_steps
  refine Halt.mk ?_
  rename Fr _ _ _ _ => lF'
  rename News _ _ _ _ => lN'
  rename IsRange _ _ _ _ _ _ _ _ => rgX
  refine' kst_range (σ := Str × Tok) (fun c => news) (fun c => [(Str.ofString "text", .str c.1 c.2)]) (fun c => True) [] (fun pre c => RInv x pre c.1) (x, t1) ?hh rgX ?hs ?hn lF' ?N ?hf ?hk ?hp ?turn ?done
  (case hh => rfl)
  (case hs => exact small_one (by omega) (by omega) (by omega) (by omega))
  (case hn => exact rangeSize_nat _ _)
  (case N => exact lN')
  (case hf => exact True.intro)
  (case hk => exact List.forall_mem_cons.mpr ⟨by with_unfolding_all rfl, List.forall_mem_nil _⟩)
  (case hp => exact RInv.start _)
  case done =>
    rintro ⟨y, ty⟩ u h tk kFacts kInv kFr kNews
    have kMk := kstMark
    dsimp only [kstB] at kFr kNews kFacts kInv
    have hy := kInv.small2 hx (by rw [rangeKs_length]; omega)
    clear lF' lN' rgX
    k_steps
    have e9 : Txt.slice y (some 1) (some 256) = roundF many x := by rw [kInv.is, rangeKs_length, Int.sub_zero]; rfl
    all_goals (refine cast_v (congrArg (fun z => Value.str z _) e9) ?_; refine hret _ _ _ ?ef ?en; (case ef => k_asm); (case en => first | k_asm | exact cb_drop (by assumption) (fun p hp => by simp only [List.mem_cons] at hp ⊢; simp only [hp, or_true])))
  case turn =>
    rintro ⟨y, ty⟩ pre k t u h tk own kEq kLt kOff kFacts kInv kFr kNews
    have kMk := kstMark
    dsimp only [kstB] at kFr kNews kFacts kInv kOff
    have hy := kInv.small hx (by omega)
    clear lF' lN' rgX
    try k_fold
    (k_with "state" => exact Mine.RInv.turn (by assumption))
    k_steps
end

section
variable {w : World} {mean : ExcName → Option Value} {mg mb : Str → Option Value} {news : List (Addr × Obj)} {dd uu : Nat} {outer : List Env} {env : Env} {base h₀ : Heap} {L : Addr} {m : Str → Option Value} {s : Shared} {Q E : Value → Shared → Prop}
theorem turned_spec {size : Int} {t : Tok} (h1 : 1 ≤ size) (h2 : size ≤ 12) (hf : env.frame = some L) (hk : env.scope.kind = .function) (B : Below callerA base [] h₀) (F : Fr h₀ L s.heap m) (X : (Mine.hd.heap_39 w.params).In h₀) (N : News h₀ L s.heap news) (T : Top Mine.hd.view_39 (looseW Mine.hd.view_39 [Str.ofString "BasicError"]) mean mg mb h₀)
    (hret : ∀ t' h' tk', Fr h₀ L h' m → News h₀ L h' news → Q (.int (turnedF size) t') { s with heap := h', toks := tk' }) :
    wpAny (model PySem.Challenge.rw_xm0053_01.row.prog w) (callerA.deeper env) (call (.ref 297) [.int size t]) Q E s := by
  revert X; k_fill; intro X
  refine wpAny_call ?_
  k_dflt (refine' code_def ?k1 ?k2 ?k3 ?k4 ?k5 ?kA ?kF ?kK ?k6 ?k7 ?k8 ?k9 ?kB ?_ ?c2 ?c3 ?c4 ?c5; (case kA => exact rfl); (case kF => assumption); (case kK => assumption); (case k1 => k_asm); (case k2 => k_asm); (case k3 => k_asm); (case k4 => k_asm); (case k5 => k_asm); (case k6 => k_is); (case k7 => k_is); (case k8 => k_room); (case k9 => exact BindsTo.of_eq rfl); (case c5 => decide); (case kB => exact locs rfl); (case c2 => exact rfl); (case c3 => exact rfl); (case c4 => exact rfl); k_whole; intro g' L' h' FG' F' N' B' X' T'; (try dsimp only); (try k_lift B'); (try k_fold))
  k_with_none
  (k_with "call ref" => (k_here; k_dflt ((refine' reckoned_add ?b0 ?b1 ?b2 ?b3 ?kd ?kf ?kk ?kB ?kF ?kX ?kN ?kT ?_); (case kf => with_unfolding_all rfl); (case kk => with_unfolding_all rfl); (case kB => k_asm); (case kF => k_asm); (case kX => k_asm); (case kN => k_asm); (case kT => k_asm); (case b0 => omega); (case b1 => omega); (case b2 => omega); (case b3 => omega); (case kd => exact Nat.le_of_ble_eq_true rfl); k_whole; intro t9 h9 tk9 F9 N9; (try dsimp only); (try k_fold))))
  (k_with "call ref" => (k_here; k_dflt ((refine' reckoned_mul ?b0 ?b1 ?kd ?kf ?kk ?kB ?kF ?kX ?kN ?kT ?_); (case kf => with_unfolding_all rfl); (case kk => with_unfolding_all rfl); (case kB => k_asm); (case kF => k_asm); (case kX => k_asm); (case kN => k_asm); (case kT => k_asm); (case b0 => omega); (case b1 => omega); (case kd => exact Nat.le_of_ble_eq_true rfl); k_whole; intro t9 h9 tk9 F9 N9; (try dsimp only); (try k_fold))))
  (k_with "call ref" => (k_here; k_dflt ((refine' logic_xor ?b0 ?b1 ?b2 ?b3 ?b4 ?kd ?kf ?kk ?kB ?kF ?kX ?kN ?kT ?_); (case kf => with_unfolding_all rfl); (case kk => with_unfolding_all rfl); (case kB => k_asm); (case kF => k_asm); (case kX => k_asm); (case kN => k_asm); (case kT => k_asm); (case b0 => assumption); (case b1 => assumption); (case b2 => assumption); (case b3 => assumption); (case b4 => assumption); (case kd => exact Nat.le_of_ble_eq_true rfl); k_whole; intro t9 h9 tk9 F9 N9; (try dsimp only); (try k_fold))))
  (k_with "exec While Compare cons nil" => k_while_given ["size"] (fun size script first => (first = 1 ∨ first = 2 ∨ first = 4 ∨ first = 8) ∧ first ≤ size) (fun size script first => (size - first).toNat) "first")
  k_steps
  all_goals (refine cast_v (congrArg (fun z => Value.int z _) (turnedF_of (by assumption) (by assumption) (by assumption) (by assumption) (by assumption))) ?_; refine hret _ _ _ ?ef ?en; (case ef => k_asm); (case en => first | k_asm | exact cb_drop (by assumption) (fun p hp => by simp only [List.mem_cons] at hp ⊢; simp only [hp, or_true])))
end

theorem fmod_11 (y : Int) : 0 ≤ y.fmod 11 ∧ y.fmod 11 ≤ 10 := by
  rw [Int.fmod_eq_emod_of_nonneg _ (by decide)]
  omega
section
variable {w : World} {mean : ExcName → Option Value} {mg mb : Str → Option Value} {news : List (Addr × Obj)} {dd uu : Nat} {outer : List Env} {env : Env} {base h₀ : Heap} {L : Addr} {m : Str → Option Value} {s : Shared} {Q E : Value → Shared → Prop}
theorem draw_spec {b l : Addr} {t0 t1 : Tok} {n k : Nat} {vs : List Value} {ns : List Int} (hb : @LT.lt Nat instLTNat l b) (hi : IntsAre vs ns) (hn : ns.length ≤ 1) (hf : env.frame = some L) (hk : env.scope.kind = .function) (B : Below callerA base [] h₀) (F : Fr h₀ L s.heap m) (X : (Mine.hd.heap_39 w.params).In h₀) (N : News h₀ L s.heap [(b, listOf #[.ref l, .int 0 t0] n), (l, listOf vs.toArray k)]) (T : Top Mine.hd.view_39 (looseW Mine.hd.view_39 [Str.ofString "BasicError"]) mean mg mb h₀)
    (hret : ∀ d t' us n' h' tk', 0 ≤ d → d ≤ 10 → Fr h₀ L h' m → News h₀ L h' [(b, listOf us n'), (l, listOf vs.toArray k)] → Q (.int d t') { s with heap := h', toks := tk' }) :
    wpAny (model PySem.Challenge.rw_xm0053_01.row.prog w) (callerA.deeper env) (call (.ref 276) [.ref b, .int 11 t1]) Q E s := by
  revert X; k_fill; intro X
  have cases9 : (vs = [] ∧ ns = []) ∨ ∃ a t, vs = [.int a t] ∧ ns = [a] := by
    cases hi with
    | nil => exact .inl ⟨rfl, rfl⟩
    | cons a t h =>
      cases h with
      | nil => exact .inr ⟨a, t, rfl, rfl⟩
      | cons b u h => simp at hn
  rcases cases9 with ⟨rfl, rfl⟩ | ⟨a, t, rfl, rfl⟩
  all_goals (refine wpAny_call ?_; k_dflt (refine' code_def ?k1 ?k2 ?k3 ?k4 ?k5 ?kA ?kF ?kK ?k6 ?k7 ?k8 ?k9 ?kB ?_ ?c2 ?c3 ?c4 ?c5; (case kA => exact rfl); (case kF => assumption); (case kK => assumption); (case k1 => k_asm); (case k2 => k_asm); (case k3 => k_asm); (case k4 => k_asm); (case k5 => k_asm); (case k6 => k_is); (case k7 => k_is); (case k8 => k_room); (case k9 => exact BindsTo.of_eq rfl); (case c5 => decide); (case kB => exact locs rfl); (case c2 => exact rfl); (case c3 => exact rfl); (case c4 => exact rfl); k_whole; intro g' L' h' FG' F' N' B' X' T'; (try dsimp only); (try k_lift B'); (try k_fold)))
  k_with_none
  k_steps
  all_goals (refine' hret _ _ _ _ _ _ (fmod_11 _).1 (fmod_11 _).2 ?ef ?en; (case ef => k_asm); (case en => k_asm))
end

def ringOf (n : Nat) : Str := Txt.slice (Str.ofString "ABCDEFGHIJKL") none (some (n : Int))
def placesOf (many most : Int) : List Int := josL many (rangeKs 2 (most - 1).toNat)
def textAt (many : Int) (r : Str) : Nat → Str
  | 0 => r
  | i + 1 => roundF many (textAt many r i)
def lastOf (many : Int) (r : Str) : Str := Txt.item r ((placesOf many r.length).getD r.length 0)
structure RingOk (r : Str) : Prop where
  is : ∃ n, n ≤ 10 ∧ r = ringOf (n + 2)
def turnGood (many : Int) (r : Str) (i : Nat) : Bool :=
  let t := textAt many r i
  let k := r.length - i
  let p := (placesOf many r.length).getD k 0
  decide (t.length = k) && decide (0 ≤ p) && decide (p ≤ 12) && decide (Txt.slice t (some (p + 1 - 1)) (some (p + 1 - 1 + 1)) = lastOf many r) && (decide (many ≠ 2) || decide (turnedF (k : Int) = p + 1))
def ringGood (many : Int) (r : Str) : Bool :=
  let p := (placesOf many r.length).getD r.length 0
  decide (2 ≤ r.length) && decide (r.length ≤ 12) && decide ((placesOf many r.length).length = r.length + 1) && decide (0 ≤ p) && decide (p < (r.length : Int)) && decide (textAt many r r.length = Str.ofString "") && (List.range r.length).all fun i => turnGood many r i
theorem all_good : (List.range 11).all (fun n => ringGood 2 (ringOf (n + 2)) && ringGood 3 (ringOf (n + 2))) = true := by decide +kernel
theorem last_good : (placesOf 3 41).getD 41 0 = 30 ∧ (placesOf 3 41).length = 42 := by decide +kernel

theorem RingOk.good {r : Str} {many : Int} (h : RingOk r) (hm : many = 2 ∨ many = 3) : ringGood many r = true := by
  obtain ⟨n, hn, e⟩ := h.is
  subst e
  have h1 := List.all_eq_true.mp all_good n (List.mem_range.mpr (by omega))
  rw [Bool.and_eq_true] at h1
  rcases hm with rfl | rfl
  · exact h1.1
  · exact h1.2
theorem RingOk.two {r : Str} (h : RingOk r) : 2 ≤ r.length ∧ r.length ≤ 12 := by
  have g := h.good (many := 2) (.inl rfl)
  simp only [ringGood, Bool.and_eq_true, decide_eq_true_eq] at g
  exact g.1.1.1.1.1
structure PlacesOk (many : Int) (r : Str) (ns : List Int) : Prop where
  is : ns = placesOf many r.length
  len : ns.length = r.length + 1
  lo : 0 ≤ ns.getD r.length 0
  hi : ns.getD r.length 0 < (r.length : Int)
theorem RingOk.places {r : Str} {many : Int} (h : RingOk r) (hm : many = 2 ∨ many = 3) : PlacesOk many r (placesOf many r.length) := by
  have g := h.good hm
  simp only [ringGood, Bool.and_eq_true, decide_eq_true_eq] at g
  exact ⟨rfl, g.1.1.1.1.2, g.1.1.1.2, g.1.1.2⟩
theorem RingOk.end {r : Str} {many : Int} (h : RingOk r) (hm : many = 2 ∨ many = 3) : textAt many r r.length = Str.ofString "" := by
  have g := h.good hm
  simp only [ringGood, Bool.and_eq_true, decide_eq_true_eq] at g
  exact g.1.2
structure TurnOk (many : Int) (r : Str) (ns : List Int) (y : Str) (k : Int) : Prop where
  len : (y.length : Int) = k
  lo : 0 ≤ ns.getD k.toNat 0
  hi : ns.getD k.toNat 0 ≤ 12
  cut : Txt.slice y (some (ns.getD k.toNat 0 + 1 - 1)) (some (ns.getD k.toNat 0 + 1 - 1 + 1)) = Txt.item r (ns.getD r.length 0)
  turned : many = 2 → turnedF k = ns.getD k.toNat 0 + 1
theorem RingOk.turn {r y : Str} {many k : Int} {ns : List Int} {i : Nat} (h : RingOk r) (hm : many = 2 ∨ many = 3) (hp : PlacesOk many r ns) (hi : i < r.length) (hy : y = textAt many r i) (hk : k = (r.length : Int) - (i : Int)) : TurnOk many r ns y k := by
  have g := h.good hm
  simp only [ringGood, Bool.and_eq_true] at g
  have g1 := List.all_eq_true.mp g.2 i (List.mem_range.mpr hi)
  simp only [turnGood, Bool.and_eq_true, Bool.or_eq_true, decide_eq_true_eq] at g1
  unfold lastOf at g1
  have e1 : k.toNat = r.length - i := by omega
  have e2 : ((r.length - i : Nat) : Int) = k := by omega
  rw [← hp.is, ← hy, ← e1] at g1
  obtain ⟨⟨⟨⟨a, b⟩, c⟩, d⟩, e⟩ := g1
  refine ⟨by omega, b, c, d, fun hm2 => ?_⟩
  rcases e with e | e
  · exact absurd hm2 e
  · rw [show ((k.toNat : Nat) : Int) = k by omega] at e
    exact e
theorem textAt_turn {many : Int} {r y : Str} {pre : List Int} {k : Int} (h : y = textAt many r pre.length) : roundF many y = textAt many r (pre ++ [k]).length := by
  rw [List.length_append, h]; rfl

section
variable {prog : Program} {w : World} {A : Around} {E : Value → Shared → Prop} {s : Shared} {value slice : PySem.Expr} {x y : Str} {t u : Tok} {h₀ : Heap} {L : Addr} {m : Str → Option Value} {news : List (Addr × Obj)} {Q : Value → Shared → Prop}
theorem store_ring {M : Model} {env : Env} {z : Str} {d : Int} {Q : Unit → Shared → Prop} (h0 : 0 ≤ d) (h1 : d ≤ 10) (h : ∀ r, RingOk r → 2 ≤ r.length → r.length ≤ 12 → wpAny M A (storeName env z (.str r t)) Q E s) :
    wpAny M A (storeName env z (.str (Txt.slice (Str.ofString "ABCDEFGHIJKL") none (some (2 + d))) t)) Q E s := by
  have hr : RingOk (Txt.slice (Str.ofString "ABCDEFGHIJKL") none (some (2 + d))) := by
    refine ⟨d.toNat, by omega, ?_⟩
    unfold ringOf
    have e : ((d.toNat + 2 : Nat) : Int) = 2 + d := by omega
    rw [e]
  exact h _ hr hr.two.1 hr.two.2
theorem last_place {l : Addr} {us : List Value} {ns : List Int} {c : Nat} {r : Str} {many : Int} (N : News h₀ L s.heap news) (hm : (l, listOf us.toArray c) ∈ news) (hi : IntsAre us ns) (hp : PlacesOk many r ns) (h : ∀ t, Q (.int (ns.getD r.length 0) t) s)
    (hs : subscripted slice false (.ref l) (.int (-1) u) = operate [.ref l, .int (-1) u] (getItem (.ref l) (.int (-1) u)) := by with_unfolding_all rfl) :
    wpAny (model prog w) A (subscriptTail value slice (.ref l) (.int (-1) u)) Q E s := by
  have hl : s.heap.IsList l us.toArray := ⟨_, (N _ hm).1, rfl, c, rfl⟩
  have h8 := hp.len
  refine item_list_ints_negR hl hi (by decide) (by omega) (by decide) (fun t => ?_) hs
  have e : (-1 + (ns.length : Int)).toNat = r.length := by omega
  rw [e]
  exact h t
theorem item_place {l : Addr} {us : List Value} {ns : List Int} {c : Nat} {k : Int} (N : News h₀ L s.heap news) (hm : (l, listOf us.toArray c) ∈ news) (hi : IntsAre us ns) (h0 : 0 ≤ k) (h1 : k < ns.length) (h2 : k ≤ 100) (h : ∀ t, Q (.int (ns.getD k.toNat 0) t) s)
    (hs : subscripted slice false (.ref l) (.int k u) = operate [.ref l, .int k u] (getItem (.ref l) (.int k u)) := by with_unfolding_all rfl) :
    wpAny (model prog w) A (subscriptTail value slice (.ref l) (.int k u)) Q E s :=
  item_list_intsR ⟨_, (N _ hm).1, rfl, c, rfl⟩ hi h0 h1 (by omega) h hs
theorem item_ring {i : Int} (h0 : 0 ≤ i) (h1 : i < x.length) (h2 : x.length ≤ 12)
    (h : Q (.str (Txt.item x i) s.toks) { s with toks := s.toks + 1 })
    (hs : subscripted slice false (.str x t) (.int i u) = operate [.str x t, .int i u] (getItem (.str x t) (.int i u)) := by with_unfolding_all rfl)
    (ht : ∀ r, letTemporaryGo value (.str x t) r = pure () := by intro _; with_unfolding_all rfl) :
    wpAny (model prog w) A (subscriptTail value slice (.str x t) (.int i u)) Q E s :=
  item_str (fitsSsize_of (N := 9223372036854775808) (by omega) (by omega) (Int.le_refl _)) (by omega) h1 (fun _ => h) hs ht
theorem ne_str_same (e : x = y) (h : Q (.bool false) s) : wpAny (model prog w) A (compareOp .NotEq (.str x t) (.str y u)) Q E s := by
  refine PyProof.Rows.ne_str ?_
  subst e
  have e1 : (x != x) = false := by simp
  rw [e1]
  exact h
theorem ne_int_same {a b : Int} (e : a = b) (h : Q (.bool false) s) : wpAny (model prog w) A (compareOp .NotEq (.int a t) (.int b u)) Q E s := by
  refine PyProof.Rows.ne_int ?_
  subst e
  have e1 : (a != a) = false := by simp
  rw [e1]
  exact h
theorem eq_int_same {a b : Int} (e : a = b) (h : Q (.bool true) s) : wpAny (model prog w) A (compareOp .Eq (.int a t) (.int b u)) Q E s := by
  refine PyProof.Rows.eq_int ?_
  subst e
  have e1 : (a == a) = true := by simp
  rw [e1]
  exact h
theorem len_text (hx : x.length ≤ 64) (h : Q (.int x.length (s.toks + 1)) { s with toks := s.toks + 1 + 1 }) : wpAny (model prog w) A (call (.builtin "len") [.str x t]) Q E s :=
  P.len_str (by omega) h
end
section
variable {w : World} {mean : ExcName → Option Value} {mg mb : Str → Option Value} {news : List (Addr × Obj)} {dd uu : Nat} {outer : List Env} {env : Env} {base h₀ : Heap} {L : Addr} {m : Str → Option Value} {s : Shared} {Q E : Value → Shared → Prop}
theorem places_ring {r : Str} {many : Int} {t u : Tok} (hR : RingOk r) (hm : many = 2 ∨ many = 3) (hf : env.frame = some L) (hk : env.scope.kind = .function) (B : Below callerA base [] h₀) (F : Fr h₀ L s.heap m) (X : (Mine.hd.heap_39 w.params).In h₀) (N : News h₀ L s.heap news) (T : Top Mine.hd.view_39 (looseW Mine.hd.view_39 [Str.ofString "BasicError"]) mean mg mb h₀)
    (hret : ∀ a vs n ns h' tk', IntsAre vs ns → PlacesOk many r ns → ns.length = r.length + 1 → 0 ≤ ns.getD r.length 0 → ns.getD r.length 0 < (r.length : Int) → (∀ p ∈ news, p.1 < a) → Fr h₀ L h' m → News h₀ L h' ((a, listOf vs.toArray n) :: news) → Q (.ref a) { s with heap := h', toks := tk' }) :
    wpAny (model PySem.Challenge.rw_xm0053_01.row.prog w) (callerA.deeper env) (call (.ref 283) [.int (r.length : Int) t, .int many u]) Q E s := by
  have two := hR.two
  have ok := hR.places hm
  exact places_spec (by omega) (by omega) (by omega) (by omega) hf hk B F X N T fun a vs n h' tk' hi hl F' N' => hret a vs n _ h' tk' hi ok ok.len ok.lo ok.hi hl F' N'
theorem places_41 {t u : Tok} (hf : env.frame = some L) (hk : env.scope.kind = .function) (B : Below callerA base [] h₀) (F : Fr h₀ L s.heap m) (X : (Mine.hd.heap_39 w.params).In h₀) (N : News h₀ L s.heap news) (T : Top Mine.hd.view_39 (looseW Mine.hd.view_39 [Str.ofString "BasicError"]) mean mg mb h₀)
    (hret : ∀ a vs n ns h' tk', IntsAre vs ns → ns.length = 42 → ns.getD 41 0 = 30 → (∀ p ∈ news, p.1 < a) → Fr h₀ L h' m → News h₀ L h' ((a, listOf vs.toArray n) :: news) → Q (.ref a) { s with heap := h', toks := tk' }) :
    wpAny (model PySem.Challenge.rw_xm0053_01.row.prog w) (callerA.deeper env) (call (.ref 283) [.int 41 t, .int 3 u]) Q E s := by
  exact places_spec (by decide) (by decide) (by decide) (by decide) hf hk B F X N T fun a vs n h' tk' hi hl F' N' => hret a vs n _ h' tk' hi last_good.2 last_good.1 hl F' N'
end
section
variable {prog : Program} {w : World} {A : Around} {E : Value → Shared → Prop} {s : Shared} {env : Env} {h₀ : Heap} {body : List Stmt} {Q : Flow → Shared → Prop}
theorem law_loop {r : Addr} {t₀ u₀ v₀ tm tx : Tok} {m₀ : Str → Option Value} {news : List (Addr × Obj)} {ring : Str} {many : Int} {ns : List Int} (hR : RingOk ring)
    (hh : A.handled = none) (hr : IsRange s.heap r (ring.length : Int) 0 (-1) t₀ u₀ v₀) (F : Fr h₀ env.locals s.heap m₀) (N : News h₀ env.locals s.heap news)
    (hmany : m₀ (Str.ofString "many") = some (.int many tm)) (htext : m₀ (Str.ofString "text") = some (.str ring tx)) (hm : many = 2 ∨ many = 3) (hp : PlacesOk many ring ns)
    (turn : ∀ (y : Str) (ty : Tok) (pre : List Int) (k : Int) t (u : Str → Option Value) h tk own, k = (ring.length : Int) - (pre.length : Int) → pre.length < ring.length → OwnOff own (news.map (·.1)) → y = textAt many ring pre.length → (y.length : Int) = k → 1 ≤ k → k ≤ 12 → k < (ns.length : Int) → 0 ≤ ns.getD k.toNat 0 → ns.getD k.toNat 0 ≤ 12 → Txt.slice y (some (ns.getD k.toNat 0 + 1 - 1)) (some (ns.getD k.toNat 0 + 1 - 1 + 1)) = Txt.item ring (ns.getD ring.length 0) → (many ≠ 2 ∨ turnedF k = ns.getD k.toNat 0 + 1) → KstMark →
      Fr h₀ env.locals h (fun z => if z = Str.ofString "size" then some (.int k t) else if z = Str.ofString "text" then some (.str y ty) else m₀ z) → News h₀ env.locals h (news ++ own) →
      wpAny (model prog w) A (execs body env) (InvPostN h₀ env.locals (KstS (fun _ : Str × Tok => news) (fun c => [(Str.ofString "text", Value.str c.1 c.2)]) (fun _ => True) (Str.ofString "size") [] m₀ (fun pre c => c.1 = textAt many ring pre.length) (pre ++ [k])) own (news.map (·.1)) { s with heap := h, toks := tk } Q) E { s with heap := h, toks := tk })
    (done : ∀ (y : Str) (ty : Tok) (u : Str → Option Value) h tk, y = Str.ofString "" →
      Fr h₀ env.locals h (fun z => if z = Str.ofString "size" then u z else if z = Str.ofString "text" then some (.str y ty) else m₀ z) → News h₀ env.locals h news → Q .next { s with heap := h, toks := tk }) :
    wpAny (model prog w) A (pyIter (.ref r)) (fun it s₂ => LoopAtV prog w A h₀ env (Str.ofString "size") body Q E it s₂) E s := by
  have h2 := hR.two
  have ek : ∀ (y : Str) (ty : Tok) (u : Str → Option Value), (fun z => kstB (fun z => if ([] : List Str).contains z then u z else m₀ z) [(Str.ofString "text", Value.str y ty)] z) = fun z => if z = Str.ofString "text" then some (.str y ty) else m₀ z := by
    intro y ty u
    funext z
    rfl
  refine kst_rangeD (σ := Str × Tok) (fun _ => news) (fun c => [(Str.ofString "text", .str c.1 c.2)]) (fun _ => True) [] (fun pre c => c.1 = textAt many ring pre.length) (ring, tx) hh hr (small_down (by omega) (by omega) (by omega) (by omega)) (rangeSize_downNat _ _) F N True.intro (List.forall_mem_cons.mpr ⟨htext, List.forall_mem_nil _⟩) rfl ?_ ?_
  · rintro ⟨y, ty⟩ pre k t u h tk own kEq kLt kOff _ kInv kFr kNews
    have kT := hR.turn hm hp (i := pre.length) (by omega) kInv kEq
    have hl := hp.len
    exact turn y ty pre k t u h tk own kEq (by omega) kOff kInv kT.len (by omega) (by omega) (by omega) kT.lo kT.hi kT.cut (by rcases hm with rfl | rfl; exact .inr (kT.turned rfl); exact .inl (by decide)) kstMark kFr kNews
  · rintro ⟨y, ty⟩ u h tk _ kInv kFr kNews
    have e1 : (downKs (ring.length : Int) ((ring.length : Int) - 0).toNat).length = ring.length := by rw [downKs_length]; omega
    have e2 : y = Str.ofString "" := by
      have e3 : y = textAt many ring (downKs (ring.length : Int) ((ring.length : Int) - 0).toNat).length := kInv
      rw [e3, e1]
      exact hR.end hm
    exact done y ty u h tk e2 kFr kNews
end
section
variable {prog : Program} {w : World} {A : Around} {E : Value → Shared → Prop} {s : Shared} {env : Env} {h₀ : Heap} {target : PySem.Expr} {body : List Stmt} {Q : Flow → Shared → Prop}
theorem two_turns {I : Addr} {m₀ : Str → Option Value} {news : List (Addr × Obj)} {keep : List (Addr × Obj)} {ring : Str} {tr ta tb : Tok} (hK : SubL keep news) (hI : ∀ p ∈ news, p.1 < I) (h0 : m₀ (Str.ofString "ring") = some (.str ring tr))
    (step : ∀ (R : Flow → Shared → Prop) (many : Int) (t : Tok) (m : Str → Option Value) (h : Heap) (tk : Nat) (o : Obj), many = 2 ∨ many = 3 →
      Fr h₀ env.locals h (fun z => if z = Str.ofString "ring" then some (.str ring tr) else m z) → News h₀ env.locals h ((I, o) :: news) →
      (∀ h' tk' m', Fr h₀ env.locals h' m' → m' (Str.ofString "ring") = some (.str ring tr) → News h₀ env.locals h' ((I, o) :: news) → R .next { s with heap := h', toks := tk' }) →
      wpAny (model prog w) A (assign target env (.int many t)) (fun _ s₂ => wpAny (model prog w) A (execs body env) R E s₂) E { s with heap := h, toks := tk })
    (done : ∀ m h tk, Fr h₀ env.locals h m → News h₀ env.locals h news → Q .next { s with heap := h, toks := tk }) :
    ItemsRest prog w A E h₀ env target body Q s [(I, "tuple_iterator")] keep [.val (.int 2 ta), .val (.int 3 tb)] m₀ news := by
  have one : ∀ (r : List Itm) (many : Int) (t : Tok) (m : Str → Option Value), (∀ m', m' (Str.ofString "ring") = some (.str ring tr) → ItemsRest prog w A E h₀ env target body Q s [(I, "tuple_iterator")] keep r m' news) → many = 2 ∨ many = 3 →
      m (Str.ofString "ring") = some (.str ring tr) → ItemsRest prog w A E h₀ env target body Q s [(I, "tuple_iterator")] keep (.val (.int many t) :: r) m news := by
    intro r many t m cont hm hr
    refine ItemsRest.val fun h tk F o ho N => ?_
    have e : (fun z => if z = Str.ofString "ring" then some (.str ring tr) else m z) = m := by
      funext z
      by_cases hz : z = Str.ofString "ring"
      · rw [if_pos hz, hz, hr]
      · rw [if_neg hz]
    exact step _ many t m h tk o hm (by rw [e]; exact F) N fun h' tk' m' F' hr' N' =>
      ⟨h', tk', m', news, rfl, F', N', fun p hp q hq x => by rw [List.mem_singleton.mp hq] at x; exact absurd (hI p hp) (by rw [x]; exact Nat.lt_irrefl _), hK, cont m' hr'⟩
  exact one _ 2 ta _ (fun m₁ h1 => one _ 3 tb _ (fun m₂ _ => ItemsRest.zero fun h tk F N => done m₂ h tk F N) (.inr rfl) h1) (.inl rfl) h0
end
end Mine
section
open Mine
local macro_rules | `(tactic| walk_at $s:str) => `(tactic| k_extra $s)
theorem PySem.Challenge.cw_xm0053_01_holds : PySem.Challenge.rw_xm0053_01.Holds := by
  refine Mine.hd ?_
  k_with_none
  k_go0
  all_goals try k_fold
  (k_with "call ref" => (k_here; k_dflt ((refine' draw_spec ?b0 ?b1 ?b2 ?kf ?kk ?kB ?kF ?kX ?kN ?kT ?_); (case kf => with_unfolding_all rfl); (case kk => with_unfolding_all rfl); (case kB => k_asm); (case kF => k_asm); (case kX => k_asm); (case kN => k_asm); (case kT => k_asm); (case b0 => assumption); (case b1 => assumption); (case b2 => omega); k_whole; intro d9 t9 us9 n9 h9 tk9 hd0 hd1 F9 N9; (try dsimp only); (try k_fold))))
  (k_with "call ref" => (k_here; k_dflt ((refine' places_ring ?b0 ?b1 ?kf ?kk ?kB ?kF ?kX ?kN ?kT ?_); (case kf => with_unfolding_all rfl); (case kk => with_unfolding_all rfl); (case kB => k_asm); (case kF => k_asm); (case kX => k_asm); (case kN => k_asm); (case kT => k_asm); (case b0 => assumption); (case b1 => omega); k_whole; intro a9 vs9 n9 ns9 h9 tk9 hi9 hp9 hp9l hp9a hp9b hl9 F9 N9; (try k_lt hl9); (try dsimp only); (try k_fold))))
  (k_with "call ref" => (k_here; k_dflt ((refine' places_41  ?kf ?kk ?kB ?kF ?kX ?kN ?kT ?_); (case kf => with_unfolding_all rfl); (case kk => with_unfolding_all rfl); (case kB => k_asm); (case kF => k_asm); (case kX => k_asm); (case kN => k_asm); (case kT => k_asm); k_whole; intro a9 vs9 n9 ns9 h9 tk9 hi9 hp9l hp9a hl9 F9 N9; (try k_lt hl9); (try dsimp only); (try k_fold))))
  (k_with "call ref" => (k_here; k_dflt ((refine' turned_spec ?b0 ?b1 ?kf ?kk ?kB ?kF ?kX ?kN ?kT ?_); (case kf => with_unfolding_all rfl); (case kk => with_unfolding_all rfl); (case kB => k_asm); (case kF => k_asm); (case kX => k_asm); (case kN => k_asm); (case kT => k_asm); (case b0 => omega); (case b1 => omega); k_whole; intro t9 h9 tk9 F9 N9; (try dsimp only); (try k_fold))))
  (k_with "call ref" => (k_here; k_dflt ((refine' round_spec ?b0 ?b1 ?b2 ?kf ?kk ?kB ?kF ?kX ?kN ?kT ?_); (case kf => with_unfolding_all rfl); (case kk => with_unfolding_all rfl); (case kB => k_asm); (case kF => k_asm); (case kX => k_asm); (case kN => k_asm); (case kT => k_asm); (case b0 => omega); (case b1 => omega); (case b2 => omega); k_whole; intro t9 h9 tk9 F9 N9; (try dsimp only); (try k_fold))))
  (k_with "call ref" => (k_here; k_dflt ((refine' mid_three ?b0 ?b1 ?b2 ?kd ?kf ?kk ?kB ?kF ?kX ?kN ?kT ?_); (case kf => with_unfolding_all rfl); (case kk => with_unfolding_all rfl); (case kB => k_asm); (case kF => k_asm); (case kX => k_asm); (case kN => k_asm); (case kT => k_asm); (case b0 => omega); (case b1 => omega); (case b2 => omega); (case kd => exact Nat.le_of_ble_eq_true rfl); k_whole; intro t9 h9 tk9 F9 N9; (try dsimp only); (try k_fold))))
  (k_with "storeName" => (k_here; ((with_reducible refine' store_ring ?qa ?qb ?_); (case qa => assumption); (case qb => assumption); intro r' hR hR2 hR12)))
  (k_with "subscriptTail Name UnaryOp ref int" => (k_here; k_dflt (refine' last_place ?qN ?qm ?qi ?qp ?_; (case qN => k_asm); (case qm => k_memK); (case qi => assumption); (case qp => assumption); k_whole; intro t9)))
  (k_with "subscriptTail Name Subscript str int" => (k_here; k_dflt (refine item_ring (by omega) (by omega) (by omega) ?_)))
  (k_with "subscriptTail Name Name ref int" => (k_here; k_dflt (refine' item_place ?qN ?qm ?qi ?qa ?qb ?qc ?_; (case qN => k_asm); (case qm => k_memK); (case qi => assumption); (case qa => omega); (case qb => omega); (case qc => omega); k_whole; intro t9)))
  (k_with "call builtin:len" => (k_here; (with_reducible show wpAny _ _ (call (Value.builtin "len") [Value.str _ _]) _ _ _); k_dflt (refine len_text (by omega) ?_)))
  (k_with "compareOp NotEq int int" => (k_here; k_dflt (refine ne_int_same (by omega) ?_)))
  (k_with "compareOp NotEq str str" => (k_here; k_dflt (refine ne_str_same (by assumption) ?_)))
  (k_with "exec For Name Call cons nil" => (k_here; (rename Fr _ _ _ _ => lF'); (with_unfolding_all refine' For_invVF lF' ?k1 ?k2 ?_; (case k1 => exact rfl); (case k2 => exact rfl); k_whole)))
  (k_with "pyIter ref" => (k_here; (rename IsRange _ _ _ _ _ _ _ _ => rgX); (rename Fr _ _ _ _ => lF'); (rename News _ _ _ _ => lN'); k_dflt ((refine' law_loop ?lR ?lh rgX lF' lN' ?lm ?lt ?l2 ?lp ?_ ?_); (case lR => assumption); (case lh => rfl); (case lm => with_unfolding_all rfl); (case lt => with_unfolding_all rfl); (case l2 => omega); (case lp => assumption)); (all_goals ((clear lF' lN' rgX); intros; (try dsimp only); (try k_fold)))))
  (k_with "pyIter ref" => (k_here; (with_reducible show wpAny _ _ (pyIter (Value.ref _)) (fun it s₂ => TurnsAt _ _ _ _ _ _ _ _ _ it s₂) _ _); (with_unfolding_all refine' iter_tupTurns ?vh ?vF ?vN ?vX ?vc ?vd ?_; (case vh => with_unfolding_all rfl); (case vF => k_asm); (case vN => k_asm); (case vX => k_memK); (case vc => exact rfl); (case vd => exact rfl); k_whole); intro I9 l9; k_dflt (refine' two_turns ?vK l9 ?v0 ?vs ?ve; (case vK => exact ⟨List.mem_cons_self .., trivial⟩); (case v0 => with_unfolding_all rfl); (case' vs => intro R9 many9 t9 m9 h9 tk9 o9 hm9 F9 N9 hR9); (case' ve => intro m9 h9 tk9 F9 N9)); (all_goals ((try dsimp only); (try k_fold)))))
  (k_with "state" => exact Mine.textAt_turn (by assumption))
  k_steps
  all_goals (refine' hR9 _ _ _ ?qf ?qr ?qn; (case qf => k_asm); (case qr => with_unfolding_all rfl); (case qn => first | k_asm | exact cb_drop (by assumption) (fun p hp => by simp only [List.mem_cons] at hp ⊢; simp only [hp, or_true])))
end
