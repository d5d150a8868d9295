import PyProof.Rows.All
import Wide.All
import OpenK.AllK
import Wide.FinOn
import Lean
import PySem.Challenge.RW_og0073_01
open PySem PySem.W PyProof.Rows
set_option Elab.async false
set_option maxRecDepth 100000
set_option maxHeartbeats 0
namespace Mine
open_top hd for PySem.Challenge.rw_og0073_01
example : True := by
  w_top off
  trivial
noncomputable abbrev PRG : Program := PySem.Challenge.rw_og0073_01.prog
noncomputable abbrev Led := List (Addr × Obj)
noncomputable abbrev Bits (x : Int) (n : Nat) : Prop := Builtin.Int.intBits x ≤ n

noncomputable abbrev AA (dp un : Nat) (gd : Option (List Code)) (env : Env) (outer : List Env) : Around := { handled := none, depth := dp, frames := some (env :: outer), guards := gd, units := un }
/-- what a call of a def gives back: a value and a ledger -/
noncomputable def Spec (w : World) (fv : Value) (vs : List Value) (cost : Nat) (news : Led) (R : Value → Led → Prop) : Prop :=
  ∀ (p : Program) (loose : List Str) (mean : ExcName → Option Value) (mg mb : Str → Option Value) (dp un : Nat) (gd : Option (List Code)) (env : Env) (outer : List Env) (A₀ : Around) (base h₀ : Heap) (L : Addr) (m : Str → Option Value) (s : Shared) (Q E : Value → Shared → Prop),
    env.frame = some L → env.scope.kind = .function →
    Below A₀ base outer h₀ → Fr h₀ L s.heap m → (hd.heap_39 w.params).In h₀ → News h₀ L s.heap news → Top p loose mean mg mb h₀ → dp + cost < recursionLimit → un + 8 * cost < cLine →
    (∀ r news' h' tk', R r news' → Fr h₀ L h' m → News h₀ L h' news' → Q r { s with heap := h', toks := tk' }) →
    wpAny (model PRG w) (AA dp un gd env outer) (call fv vs) Q E s

theorem Spec.use {w : World} {fv : Value} {vs : List Value} {cost : Nat} {news : Led} {R : Value → Led → Prop}
    {p : Program} {loose : List Str} {mean : ExcName → Option Value} {mg mb : Str → Option Value} {dp un : Nat} {gd : Option (List Code)} {env : Env} {outer : List Env} {A₀ : Around} {base h₀ : Heap} {L : Addr} {m : Str → Option Value} {s : Shared} {Q E : Value → Shared → Prop}
    (S : Spec w fv vs cost news R) (hf : env.frame = some L) (hk : env.scope.kind = .function)
    (B : Below A₀ base outer h₀) (F : Fr h₀ L s.heap m) (X : (hd.heap_39 w.params).In h₀) (N : News h₀ L s.heap news) (T : Top p loose mean mg mb h₀) (hd : dp + cost < recursionLimit) (hu : un + 8 * cost < cLine)
    (ret : ∀ r news' h' tk', R r news' → Fr h₀ L h' m → News h₀ L h' news' → Q r { s with heap := h', toks := tk' }) :
    wpAny (model PRG w) (AA dp un gd env outer) (call fv vs) Q E s := S _ _ _ _ _ _ _ _ _ _ _ _ _ _ _ _ _ _ hf hk B F X N T hd hu ret

section
variable {prog : Program} {w : World} {A : Around} {E : Value → Shared → Prop} {s : Shared} {a b : Int} {t u : Tok} {Q : Value → Shared → Prop}
theorem log2_of_bits {x : Int} {n : Nat} (h : Bits x n) (hn : n ≤ 9000) : x.natAbs.log2 < 9000 := by
  unfold Bits Builtin.Int.intBits at h
  by_cases h0 : (x == 0) = true
  · have : x = 0 := beq_iff_eq.mp h0
    subst this
    decide +kernel
  · rw [if_neg h0] at h
    omega
theorem fdiv_bits {n : Nat} (hb : b ≠ 0) (hs : Bits b n) (hn : n ≤ 9000) (h : Q (.int (a.fdiv b) s.toks) { s with toks := s.toks + 1 }) :
    wpAny (model prog w) A (binaryOp .FloorDiv (.int a t) (.int b u)) Q E s := floordiv_int hb h (Or.inl (PyProof.noPylong_of_log2 (log2_of_bits hs hn)))
theorem mul_bits {m n : Nat} (ha : Bits a m) (hb : Bits b n) (hn : m + n ≤ 134217728) (h : Q (.int (a * b) s.toks) { s with toks := s.toks + 1 }) :
    wpAny (model prog w) A (binaryOp .Mult (.int a t) (.int b u)) Q E s := PyProof.Rows.mul_int h (mulOk_of_bits ha hb hn)
end

theorem bits_pow10 {k : Int} (h : k ≤ 100) : Bits ((10 : Int) ^ k.toNat) 400 := by
  refine intBits_le ?_
  have h1 : k.toNat ≤ 100 := by omega
  rw [Int.natAbs_pow]
  exact Nat.lt_of_le_of_lt (Nat.pow_le_pow_right (by decide) h1) (by decide)
section
variable {prog : Program} {w : World} {A : Around} {E : Value → Shared → Prop} {s : Shared} {a b : Int} {t u : Tok} {Q : Value → Shared → Prop} {h₀ : Heap} {L : Addr} {m : Str → Option Value} {news : Led}
theorem max_here (hh : A.handled = none) (F : Fr h₀ L s.heap m) (N : News h₀ L s.heap news) (h : ∀ h' tk x, Fr h₀ L h' m → News h₀ L h' news → Q (.int (max a b) x) { s with heap := h', toks := tk }) :
    wpAny (model prog w) A (call (.builtin "max") [.int a t, .int b u]) Q E s :=
  max_two_N hh F N fun h' tk F' N' => by
    have e : (if b > a then b else a) = max a b := by split <;> omega
    rw [e]
    exact h h' tk _ F' N'
end
section
variable {prog : Program} {w : World} {A : Around} {E : Value → Shared → Prop} {s : Shared} {n : Int} {t u : Tok} {Q : Value → Shared → Prop}
theorem pow10_here (h0 : 0 ≤ n) (h1 : n ≤ 1000) (h : Q (.int (10 ^ n.toNat) s.toks) { s with toks := s.toks + 1 }) :
    wpAny (model prog w) A (binaryOp .Pow (.int 10 t) (.int n u)) Q E s := pow_int_small h0 (by omega) (by decide) h
end
theorem keep1 {h₀ h : Heap} {L : Addr} {q : Addr × Obj} {rest news : Led} (N : News h₀ L h (q :: rest)) (hs : ∀ p ∈ news, p ∈ rest) : News h₀ L h (q :: news) := fun p hp => by
  rcases List.mem_cons.mp hp with rfl | hp
  · exact N _ (.head _)
  · exact N p (.tail _ (hs p hp))
theorem mul_pow_ne {q k : Int} (h : q ≠ 0) : q * 10 ^ k.toNat ≠ 0 := Int.mul_ne_zero h (Int.pow_ne_zero (by decide))
/-- a token once made is any token: in the proof's term a lemma's binder stays where a generalized goal does not -/
theorem gen_tok1 {M : Model} {A : Around} {α : Type} {Q : α → Shared → Prop} {E : Value → Shared → Prop} {n : Sem α} {h : Heap} {g : Array GenState} {d : Drawn} {t : Nat} {o : OsState} (H : ∀ tk, wpAny M A n Q E (Shared.mk h g d tk o)) : wpAny M A n Q E (Shared.mk h g d (t + 1) o) := H _
local macro_rules | `(tactic| walk_at $s:str) => `(tactic| k_extra $s)
example : True := by
  k_with "binaryOp FloorDiv int int" => (k_here; refine' fdiv_bits ?kw_kb ?kw_kc ?kw_kd ?_; (case kw_kb => first | assumption | omega | decide); (case kw_kc => bits_by_make); (case kw_kd => decide))
  trivial
local macro_rules | `(tactic| bits_by_make) => `(tactic| with_reducible assumption)
local macro_rules | `(tactic| bits_by_make) => `(tactic| exact bits_pow10 (by omega))
example : True := by
  k_with "call builtin:max" => (k_here; (with_reducible show wpAny _ _ (call (Value.builtin _) [Value.int _ _, Value.int _ _]) _ _ _); k_dflt (refine' max_here ?kw_hh ?kw_F ?kw_N ?_; (case kw_hh => exact rfl); (case kw_F => k_asm); (case kw_N => k_asm); k_whole; intro h' tk' x' F' N'; (try k_sweep)))
  trivial
example : True := by
  k_with "binaryOp Pow int int" => (k_here; (with_reducible refine pow10_here ?_ ?_ ?_); omega; omega)
  trivial
example : True := by
  k_with "binaryOp Mult int int" => (k_here; with_reducible refine' mul_bits ?kw_ka ?kw_kb ?kw_kc ?_; (case kw_ka => bits_by_make); (case kw_kb => bits_by_make); (case kw_kc => decide))
  trivial
local macro_rules | `(tactic| k_mem) => `(tactic| assumption)
local macro_rules | `(tactic| k_all) => `(tactic| assumption)
example : True := by
  k_with "newTuple" => (k_here; (try dsimp only); (with_reducible refine gen_tok1 ?_); intro tk9)
  trivial
example : True := by
  k_with "execs cons" => (k_here; (try dsimp only); (with_reducible refine gen_tok1 ?_); intro tk9)
  trivial
example : True := by
  k_with "execs cons" => (k_here; (with_reducible show wpAny _ _ _ _ _ _); k_fold)
  trivial
/-- abs as the walk says it -/
noncomputable def absI (x : Int) : Int := if x < 0 then -x else x
theorem absI_ne {x : Int} (h : x ≠ 0) : (if x < 0 then -x else x) ≠ 0 := by split <;> omega
theorem absI_bits {x : Int} {n : Nat} (h : Bits x n) : Bits (if x < 0 then -x else x) n := bits_of_natAbs_le (by split <;> omega) h

noncomputable def cutQ (t b : Int) : Int := if (decide (t < 0) != decide (b < 0)) = true then -((if t < 0 then -t else t).fdiv (if b < 0 then -b else b)) else (if t < 0 then -t else t).fdiv (if b < 0 then -b else b)

theorem cutq_spec (w : World) (news : Led) (t b : Int) (k1 k2 : Tok) (hb : b ≠ 0) (hs : Bits b 9000) :
    Spec w (.ref 62) [.int t k1, .int b k2] 2 news (fun r news' => news' = news ∧ ∃ k, r = .int (cutQ t b) k) := by
  unfold Spec; intro p loose mean mg mb dp un gd env outer A₀ base h₀ L m sh Q E hf hk B F X N T hd hu hret
  have hb' := absI_ne hb
  have hs' := absI_bits hs
  refine wpAny_call ?_
  k_dflt (refine' code_def ?k1 ?k2 ?k3 ?k4 ?k5 ?kA ?kF ?kK ?k6 ?k7 ?k8 ?k9 ?kB ?_ ?c2 ?c3 ?c4 ?c5; (case kA => exact rfl); (case kF => exact hf); (case kK => exact hk); (case k1 => k_asm); (case k2 => k_asm); (case k3 => k_asm); (case k4 => k_asm); (case k5 => k_asm); (case k6 => k_is); (case k7 => k_is); (case k8 => first | (dsimp only [AA]; omega) | (simp only [depth_under_make]; omega)); (case k9 => first | exact binds_K (by k_in) rfl (by k_is) rfl rfl rfl | exact BindsTo.of_eq rfl); (case c5 => decide); (case kB => exact locs rfl); (case c2 => exact rfl); (case c3 => exact rfl); (case c4 => exact rfl); k_whole; intro g' L' h' FG' F' N' B' X' T'; (try dsimp only); (try (with_reducible show wpAny _ _ _ _ _ _)); (try k_fold))
  k_steps
  all_goals (refine hret _ _ _ _ ?_ (by k_asm) (by k_asm); (try dsimp only))
  all_goals (refine ⟨rfl, _, congrArg (fun x => Value.int x _) ?_⟩)
  all_goals (unfold cutQ; first | exact (if_pos (by assumption)).symm | exact (if_neg (by rw [Bool.not_eq_true]; assumption)).symm)

/-- the law's own cut: rounded away from nought, or cut -/
noncomputable abbrev cutD (t b : Int) : Int := (if t < 0 then -t else t).fdiv (if b < 0 then -b else b)
noncomputable def cutS (t b : Int) (r : Bool) : Int :=
  if r = true then (if (if b < 0 then -b else b) ≤ 2 * ((if t < 0 then -t else t) - cutD t b * (if b < 0 then -b else b)) then cutD t b + 1 else cutD t b) else cutD t b
noncomputable def cutR (t b : Int) (r : Bool) : Int := if (decide (t < 0) != decide (b < 0)) = true then -(cutS t b r) else cutS t b r
theorem cutS_ff {t b : Int} {r : Bool} (h : r = false) : cutD t b = cutS t b r := by subst h; rfl
theorem cutS_tt {t b : Int} {r : Bool} (h : r = true) (h2 : (if b < 0 then -b else b) ≤ 2 * ((if t < 0 then -t else t) - cutD t b * (if b < 0 then -b else b))) : cutD t b + 1 = cutS t b r := by
  subst h; unfold cutS; rw [if_pos rfl, if_pos h2]
theorem cutS_tf {t b : Int} {r : Bool} (h : r = true) (h2 : ¬ (if b < 0 then -b else b) ≤ 2 * ((if t < 0 then -t else t) - cutD t b * (if b < 0 then -b else b))) : cutD t b = cutS t b r := by
  subst h; unfold cutS; rw [if_pos rfl, if_neg h2]
theorem cutR_t {t b q : Int} {r : Bool} (h : (decide (t < 0) != decide (b < 0)) = true) (hq : q = cutS t b r) : -q = cutR t b r := by subst hq; exact (if_pos h).symm
theorem cutR_f {t b q : Int} {r : Bool} (h : (decide (t < 0) != decide (b < 0)) = false) (hq : q = cutS t b r) : q = cutR t b r := by subst hq; exact (if_neg (by rw [h]; decide)).symm

theorem cutr_spec (w : World) (news : Led) (t b : Int) (r : Bool) (k1 k2 : Tok) (hb : b ≠ 0) (hs : Bits b 9000) (ht : Bits t 9000) :
    Spec w (.ref 163) [.int t k1, .int b k2, .bool r] 2 news (fun v news' => news' = news ∧ ∃ k, v = .int (cutR t b r) k) := by
  unfold Spec; intro p loose mean mg mb dp un gd env outer A₀ base h₀ L m sh Q E hf hk B F X N T hd hu hret
  have hb' := absI_ne hb
  have hs' := absI_bits hs
  have ht' := absI_bits ht
  refine wpAny_call ?_
  k_dflt (refine' code_def ?k1 ?k2 ?k3 ?k4 ?k5 ?kA ?kF ?kK ?k6 ?k7 ?k8 ?k9 ?kB ?_ ?c2 ?c3 ?c4 ?c5; (case kA => exact rfl); (case kF => exact hf); (case kK => exact hk); (case k1 => k_asm); (case k2 => k_asm); (case k3 => k_asm); (case k4 => k_asm); (case k5 => k_asm); (case k6 => k_is); (case k7 => k_is); (case k8 => first | (dsimp only [AA]; omega) | (simp only [depth_under_make]; omega)); (case k9 => first | exact binds_K (by k_in) rfl (by k_is) rfl rfl rfl | exact BindsTo.of_eq rfl); (case c5 => decide); (case kB => exact locs rfl); (case c2 => exact rfl); (case c3 => exact rfl); (case c4 => exact rfl); k_whole; intro g' L' h' FG' F' N' B' X' T'; (try dsimp only); (try (with_reducible show wpAny _ _ _ _ _ _)); (try k_fold))
  k_steps
  all_goals (refine hret _ _ _ _ ?_ (by k_asm) (by k_asm); (try dsimp only))
  all_goals (refine ⟨rfl, _, congrArg (fun x => Value.int x _) ?_⟩)
  all_goals (first | refine cutR_t (by assumption) ?_ | refine cutR_f (by assumption) ?_)
  all_goals (first | exact cutS_ff (by assumption) | exact cutS_tt (by assumption) (by assumption) | exact cutS_tf (by assumption) (by assumption))

theorem fits_spec (w : World) (news : Led) (u d : Int) (k1 k2 : Tok) (hd0 : 0 ≤ d) (hd1 : d ≤ 1000) :
    Spec w (.ref 120) [.int u k1, .int d k2] 2 news (fun v news' => news' = news ∧ v = .bool (decide ((if u < 0 then -u else u) < 10 ^ d.toNat))) := by
  unfold Spec; intro p loose mean mg mb dp un gd env outer A₀ base h₀ L m sh Q E hf hk B F X N T hd hu hret
  refine wpAny_call ?_
  k_dflt (refine' code_def ?k1 ?k2 ?k3 ?k4 ?k5 ?kA ?kF ?kK ?k6 ?k7 ?k8 ?k9 ?kB ?_ ?c2 ?c3 ?c4 ?c5; (case kA => exact rfl); (case kF => exact hf); (case kK => exact hk); (case k1 => k_asm); (case k2 => k_asm); (case k3 => k_asm); (case k4 => k_asm); (case k5 => k_asm); (case k6 => k_is); (case k7 => k_is); (case k8 => first | (dsimp only [AA]; omega) | (simp only [depth_under_make]; omega)); (case k9 => first | exact binds_K (by k_in) rfl (by k_is) rfl rfl rfl | exact BindsTo.of_eq rfl); (case c5 => decide); (case kB => exact locs rfl); (case c2 => exact rfl); (case c3 => exact rfl); (case c4 => exact rfl); k_whole; intro g' L' h' FG' F' N' B' X' T'; (try dsimp only); (try (with_reducible show wpAny _ _ _ _ _ _)); (try k_fold))
  k_steps
  all_goals (refine hret _ _ _ _ ?_ (by k_asm) (by k_asm); (try dsimp only))
  exact ⟨rfl, rfl⟩
example : True := by
  k_with "call ref" => (k_here; (with_reducible show wpAny _ _ (PySem.call (Value.ref 62) _ _) _ _ _); k_dflt (refine' Spec.use (cutq_spec _ _ _ _ _ _ ?kw_s1 ?kw_s2) ?kw_hf ?kw_hk ?kw_B ?kw_F ?kw_X ?kw_N ?kw_T ?kw_hd ?kw_hu ?_; (case kw_hf => exact rfl); (case kw_hk => exact rfl); (case kw_B => k_asm); (case kw_F => k_asm); (case kw_X => k_asm); (case kw_N => k_asm); (case kw_T => k_asm); (case kw_s1 => first | assumption | omega); (case kw_s2 => exact Nat.le_trans (by bits_by_make) (by decide)); (case kw_hd => first | (dsimp only [AA, Around.deeper]; omega) | decide +kernel); (case kw_hu => first | (dsimp only [AA, Around.deeper]; omega) | decide +kernel); k_whole; intro r9 n9 h9 tk9 R9 F9 N9; obtain ⟨e8, k9, e9⟩ := R9; replace e8 := Eq.symm e8; replace e9 := Eq.symm e9; subst e8 e9; (try dsimp only); (try k_sweep); (try (with_reducible show wpAny _ _ _ _ _ _)); (try k_fold)))
  trivial
example : True := by
  k_with "call ref" => (k_here; (with_reducible show wpAny _ _ (PySem.call (Value.ref 163) _ _) _ _ _); k_dflt (refine' Spec.use (cutr_spec _ _ _ _ _ _ _ ?kw_s1 ?kw_s2 ?kw_s3) ?kw_hf ?kw_hk ?kw_B ?kw_F ?kw_X ?kw_N ?kw_T ?kw_hd ?kw_hu ?_; (case kw_hf => exact rfl); (case kw_hk => exact rfl); (case kw_B => k_asm); (case kw_F => k_asm); (case kw_X => k_asm); (case kw_N => k_asm); (case kw_T => k_asm); (case kw_s1 => first | assumption | exact mul_pow_ne (by assumption) | omega); (case kw_s2 => exact Nat.le_trans (by bits_by_make) (by decide)); (case kw_s3 => exact Nat.le_trans (by bits_by_make) (by decide)); (case kw_hd => first | (dsimp only [AA, Around.deeper]; omega) | decide +kernel); (case kw_hu => first | (dsimp only [AA, Around.deeper]; omega) | decide +kernel); k_whole; intro r9 n9 h9 tk9 R9 F9 N9; obtain ⟨e8, k9, e9⟩ := R9; replace e8 := Eq.symm e8; replace e9 := Eq.symm e9; subst e8 e9; (try dsimp only); (try k_sweep); (try (with_reducible show wpAny _ _ _ _ _ _)); (try k_fold)))
  trivial
example : True := by
  k_with "call ref" => (k_here; (with_reducible show wpAny _ _ (PySem.call (Value.ref 120) _ _) _ _ _); k_dflt (refine' Spec.use (fits_spec _ _ _ _ _ _ ?kw_s1 ?kw_s2) ?kw_hf ?kw_hk ?kw_B ?kw_F ?kw_X ?kw_N ?kw_T ?kw_hd ?kw_hu ?_; (case kw_hf => exact rfl); (case kw_hk => exact rfl); (case kw_B => k_asm); (case kw_F => k_asm); (case kw_X => k_asm); (case kw_N => k_asm); (case kw_T => k_asm); (case kw_s1 => first | assumption | omega); (case kw_s2 => first | assumption | omega); (case kw_hd => first | (dsimp only [AA, Around.deeper]; omega) | decide +kernel); (case kw_hu => first | (dsimp only [AA, Around.deeper]; omega) | decide +kernel); k_whole; intro r9 n9 h9 tk9 R9 F9 N9; obtain ⟨e8, e9⟩ := R9; replace e8 := Eq.symm e8; replace e9 := Eq.symm e9; subst e8 e9; (try dsimp only); (try k_sweep); (try (with_reducible show wpAny _ _ _ _ _ _)); (try k_fold)))
  trivial
/-- trailing noughts struck off -/
noncomputable def decL : Nat → Int → Int × Int
  | 0, u => (u, 0)
  | n + 1, u => if u.fmod 10 = 0 then decL n (u.fdiv 10) else (u, (n : Int) + 1)
noncomputable def decP (u s : Int) : Int × Int := if s < 0 then (u * 10 ^ (-s).toNat, 0) else decL s.toNat u
theorem decL_step {u s : Int} (h0 : 0 < s) (h : u.fmod 10 = 0) : decL (s - 1).toNat (u.fdiv 10) = decL s.toNat u := by
  obtain ⟨n, rfl⟩ : ∃ n : Nat, s = (n : Int) + 1 := ⟨(s - 1).toNat, by omega⟩
  rw [show ((n : Int) + 1 - 1).toNat = n by omega, show ((n : Int) + 1).toNat = n + 1 by omega, decL, if_pos h]
theorem decL_end {u s : Int} (h0 : 0 ≤ s) (h : ¬ (0 < s ∧ u.fmod 10 = 0)) : decL s.toNat u = (u, s) := by
  by_cases q : s = 0
  · subst q; rfl
  · obtain ⟨n, rfl⟩ : ∃ n : Nat, s = (n : Int) + 1 := ⟨(s - 1).toNat, by omega⟩
    rw [show ((n : Int) + 1).toNat = n + 1 by omega, decL, if_neg (fun e => h ⟨by omega, e⟩)]
noncomputable abbrev tup2 (x y : Int) (t u : Tok) : Obj := { cls := .type "tuple", data := .seq [Value.int x t, Value.int y u].toArray }
/-- a new pair of ints on the ledger -/
noncomputable def NewPair (p : Int × Int) (news : Led) (v : Value) (news' : Led) : Prop := ∃ a t u, v = .ref a ∧ news' = (a, tup2 p.1 p.2 t u) :: news

theorem dec_spec (w : World) (news : Led) (u s : Int) (k1 k2 : Tok) (hu9 : Bits u 2000) (hs9 : s ≤ 40) (hs8 : -40 ≤ s) :
    Spec w (.ref 70) [.int u k1, .int s k2] 2 news (NewPair (decP u s) news) := by
  unfold Spec; intro p loose mean mg mb dp un gd env outer A₀ base h₀ L m sh Q E hf hk B F X N T hd hu hret
  refine wpAny_call ?_
  k_dflt (refine' code_def ?k1 ?k2 ?k3 ?k4 ?k5 ?kA ?kF ?kK ?k6 ?k7 ?k8 ?k9 ?kB ?_ ?c2 ?c3 ?c4 ?c5; (case kA => exact rfl); (case kF => exact hf); (case kK => exact hk); (case k1 => k_asm); (case k2 => k_asm); (case k3 => k_asm); (case k4 => k_asm); (case k5 => k_asm); (case k6 => k_is); (case k7 => k_is); (case k8 => first | (dsimp only [AA]; omega) | (simp only [depth_under_make]; omega)); (case k9 => first | exact binds_K (by k_in) rfl (by k_is) rfl rfl rfl | exact BindsTo.of_eq rfl); (case c5 => decide); (case kB => exact locs rfl); (case c2 => exact rfl); (case c3 => exact rfl); (case c4 => exact rfl); k_whole; intro g' L' h' FG' F' N' B' X' T'; (try dsimp only); (try (with_reducible show wpAny _ _ _ _ _ _)); (try k_fold))
  (k_with "exec While BoolOp cons nil" => k_while (fun _ (x y : Int) => 0 ≤ y ∧ y ≤ 40 ∧ decL y.toNat x = decL s.toNat u) (fun _ (x y : Int) => y.toNat) "units" "scale")
  (k_with "state" => first | exact ⟨by omega, by omega, rfl⟩ | exact ⟨by omega, by omega, (decL_step (by assumption) (by assumption)).trans (by assumption)⟩)
  k_steps
  all_goals (refine hret _ _ _ _ ?_ (by k_asm) (by k_asm); (try dsimp only))
  · rw [show decP u s = (u * 10 ^ (-s).toNat, 0) from if_pos (by assumption)]
    exact ⟨_, _, _, rfl, rfl⟩
  all_goals (
    rename decL _ _ = decL _ _ => he
    rw [show decP u s = decL s.toNat u from if_neg (by assumption), ← he, decL_end (by assumption) (by omega)]
    exact ⟨_, _, _, rfl, rfl⟩)
example : True := by
  k_with "call ref" => (k_here; (with_reducible show wpAny _ _ (PySem.call (Value.ref 70) _ _) _ _ _); k_dflt (refine' Spec.use (dec_spec _ _ _ _ _ _ ?kw_s1 ?kw_s2 ?kw_s3) ?kw_hf ?kw_hk ?kw_B ?kw_F ?kw_X ?kw_N ?kw_T ?kw_hd ?kw_hu ?_; (case kw_hf => exact rfl); (case kw_hk => exact rfl); (case kw_B => k_asm); (case kw_F => k_asm); (case kw_X => k_asm); (case kw_N => k_asm); (case kw_T => k_asm); (case kw_s1 => exact Nat.le_trans (by bits_by_make) (by decide)); (case kw_s2 => omega); (case kw_s3 => omega); (case kw_hd => first | (dsimp only [AA, Around.deeper]; omega) | decide +kernel); (case kw_hu => first | (dsimp only [AA, Around.deeper]; omega) | decide +kernel); k_whole; intro r9 n9 h9 tk9 R9 F9 N9; obtain ⟨a9, t9, u9, e8, e9⟩ := R9; replace e8 := Eq.symm e8; replace e9 := Eq.symm e9; subst e8 e9; (try dsimp only); (try k_sweep); (try (with_reducible show wpAny _ _ _ _ _ _)); (try k_fold)))
  trivial
/-- both on one scale -/
noncomputable def besP (a b : Int × Int) : Int × Int × Int := (a.1 * 10 ^ ((max a.2 b.2) - a.2).toNat, b.1 * 10 ^ ((max a.2 b.2) - b.2).toNat, max a.2 b.2)
noncomputable abbrev tup3 (x y z : Int) (t u v : Tok) : Obj := { cls := .type "tuple", data := .seq [Value.int x t, Value.int y u, Value.int z v].toArray }
structure PairOk (a : Int × Int) : Prop where
  bits : Bits a.1 100
  lo : 0 ≤ a.2
  hi : a.2 ≤ 30

theorem bes_spec (w : World) (news : Led) (a b : Int × Int) (pa pb : Addr) (t1 u1 t2 u2 : Tok) (hpa : (pa, tup2 a.1 a.2 t1 u1) ∈ news) (hpb : (pb, tup2 b.1 b.2 t2 u2) ∈ news) (oa : PairOk a) (ob : PairOk b) :
    Spec w (.ref 84) [.ref pa, .ref pb] 2 news (fun v news' => ∃ p t u x, v = .ref p ∧ news' = (p, tup3 (besP a b).1 (besP a b).2.1 (besP a b).2.2 t u x) :: news) := by
  unfold Spec; intro p loose mean mg mb dp un gd env outer A₀ base h₀ L m sh Q E hf hk B F X N T hd hu hret
  obtain ⟨a1, a2, a3⟩ := oa
  obtain ⟨b1, b2, b3⟩ := ob
  obtain ⟨a, as⟩ := a
  obtain ⟨b, bs⟩ := b
  dsimp only at *
  refine wpAny_call ?_
  k_dflt (refine' code_def ?k1 ?k2 ?k3 ?k4 ?k5 ?kA ?kF ?kK ?k6 ?k7 ?k8 ?k9 ?kB ?_ ?c2 ?c3 ?c4 ?c5; (case kA => exact rfl); (case kF => exact hf); (case kK => exact hk); (case k1 => k_asm); (case k2 => k_asm); (case k3 => k_asm); (case k4 => k_asm); (case k5 => k_asm); (case k6 => k_is); (case k7 => k_is); (case k8 => first | (dsimp only [AA]; omega) | (simp only [depth_under_make]; omega)); (case k9 => first | exact binds_K (by k_in) rfl (by k_is) rfl rfl rfl | exact BindsTo.of_eq rfl); (case c5 => decide); (case kB => exact locs rfl); (case c2 => exact rfl); (case c3 => exact rfl); (case c4 => exact rfl); k_whole; intro g' L' h' FG' F' N' B' X' T'; (try dsimp only); (try (with_reducible show wpAny _ _ _ _ _ _)); (try k_fold))
  k_steps
  all_goals (refine hret _ _ _ _ ?_ (by k_asm) (by k_asm); (try dsimp only))
  exact ⟨_, _, _, _, rfl, rfl⟩
example : True := by
  k_with "call ref" => (k_here; (with_reducible show wpAny _ _ (PySem.call (Value.ref 84) _ _) _ _ _); k_dflt (refine' Spec.use (bes_spec _ _ _ _ _ _ _ _ _ _ ?kw_s1 ?kw_s2 ?kw_s3 ?kw_s4) ?kw_hf ?kw_hk ?kw_B ?kw_F ?kw_X ?kw_N ?kw_T ?kw_hd ?kw_hu ?_; (case kw_hf => exact rfl); (case kw_hk => exact rfl); (case kw_B => k_asm); (case kw_F => k_asm); (case kw_X => k_asm); (case kw_N => k_asm); (case kw_T => k_asm); (case kw_s1 => k_mem); (case kw_s2 => k_mem); (case kw_s3 => assumption); (case kw_s4 => assumption); (case kw_hd => first | (dsimp only [AA, Around.deeper]; omega) | decide +kernel); (case kw_hu => first | (dsimp only [AA, Around.deeper]; omega) | decide +kernel); k_whole; intro r9 n9 h9 tk9 R9 F9 N9; obtain ⟨a9, t9, u9, x9, e8, e9⟩ := R9; replace e8 := Eq.symm e8; replace e9 := Eq.symm e9; subst e8 e9; (try dsimp only); (try k_sweep); (try (with_reducible show wpAny _ _ _ _ _ _)); (try k_fold)))
  trivial
theorem cutQ_bits {t b : Int} {m n : Nat} (h : Bits t m) (hn : m ≤ n) : Bits (cutQ t b) n := by
  unfold cutQ
  have h' := bits_fdiv (b := if b < 0 then -b else b) (absI_bits h)
  split
  · exact Nat.le_trans (bits_neg h') hn
  · exact Nat.le_trans h' hn
theorem besP_ok {a b : Int × Int} (oa : PairOk a) (ob : PairOk b) : Bits (besP a b).1 500 ∧ Bits (besP a b).2.1 500 ∧ 0 ≤ (besP a b).2.2 ∧ (besP a b).2.2 ≤ 30 := by
  have a2 := oa.lo; have a3 := oa.hi; have b2 := ob.lo; have b3 := ob.hi
  refine ⟨bits_mul oa.bits (bits_pow10 (by omega)), bits_mul ob.bits (bits_pow10 (by omega)), ?_, ?_⟩ <;> (show _ ≤ _; simp only [besP]; omega)
noncomputable def plusP (a b : Int × Int) : Int × Int := decP ((besP a b).1 + (besP a b).2.1) (besP a b).2.2
noncomputable def minusP (a b : Int × Int) : Int × Int := decP ((besP a b).1 - (besP a b).2.1) (besP a b).2.2
noncomputable def timesP (a b : Int × Int) : Int × Int := decP (a.1 * b.1) (a.2 + b.2)
noncomputable def quotP (a b : Int × Int) : Int × Int := decP (cutQ (a.1 * 10 ^ (30 + b.2).toNat) (b.1 * 10 ^ a.2.toNat)) 30

theorem plus_spec (w : World) (news : Led) (a b : Int × Int) (pa pb : Addr) (t1 u1 t2 u2 : Tok) (hpa : (pa, tup2 a.1 a.2 t1 u1) ∈ news) (hpb : (pb, tup2 b.1 b.2 t2 u2) ∈ news) (oa : PairOk a) (ob : PairOk b) :
    Spec w (.ref 91) [.ref pa, .ref pb] 6 news (NewPair (plusP a b) news) := by
  unfold Spec; intro p loose mean mg mb dp un gd env outer A₀ base h₀ L m sh Q E hf hk B F X N T hd hu hret
  obtain ⟨q1, q2, q3, q4⟩ := besP_ok oa ob
  refine wpAny_call ?_
  k_dflt (refine' code_def ?k1 ?k2 ?k3 ?k4 ?k5 ?kA ?kF ?kK ?k6 ?k7 ?k8 ?k9 ?kB ?_ ?c2 ?c3 ?c4 ?c5; (case kA => exact rfl); (case kF => exact hf); (case kK => exact hk); (case k1 => k_asm); (case k2 => k_asm); (case k3 => k_asm); (case k4 => k_asm); (case k5 => k_asm); (case k6 => k_is); (case k7 => k_is); (case k8 => first | (dsimp only [AA]; omega) | (simp only [depth_under_make]; omega)); (case k9 => first | exact binds_K (by k_in) rfl (by k_is) rfl rfl rfl | exact BindsTo.of_eq rfl); (case c5 => decide); (case kB => exact locs rfl); (case c2 => exact rfl); (case c3 => exact rfl); (case c4 => exact rfl); k_whole; intro g' L' h' FG' F' N' B' X' T'; (try dsimp only); (try (with_reducible show wpAny _ _ _ _ _ _)); (try k_fold))
  k_steps
  all_goals (refine hret _ (_ :: news) _ _ ?_ (by k_asm) (keep1 (by assumption) (by intro q hq; repeat (first | exact hq | apply List.mem_cons_of_mem))); (try dsimp only); exact ⟨_, _, _, rfl, rfl⟩)

theorem minus_spec (w : World) (news : Led) (a b : Int × Int) (pa pb : Addr) (t1 u1 t2 u2 : Tok) (hpa : (pa, tup2 a.1 a.2 t1 u1) ∈ news) (hpb : (pb, tup2 b.1 b.2 t2 u2) ∈ news) (oa : PairOk a) (ob : PairOk b) :
    Spec w (.ref 98) [.ref pa, .ref pb] 6 news (NewPair (minusP a b) news) := by
  unfold Spec; intro p loose mean mg mb dp un gd env outer A₀ base h₀ L m sh Q E hf hk B F X N T hd hu hret
  obtain ⟨q1, q2, q3, q4⟩ := besP_ok oa ob
  refine wpAny_call ?_
  k_dflt (refine' code_def ?k1 ?k2 ?k3 ?k4 ?k5 ?kA ?kF ?kK ?k6 ?k7 ?k8 ?k9 ?kB ?_ ?c2 ?c3 ?c4 ?c5; (case kA => exact rfl); (case kF => exact hf); (case kK => exact hk); (case k1 => k_asm); (case k2 => k_asm); (case k3 => k_asm); (case k4 => k_asm); (case k5 => k_asm); (case k6 => k_is); (case k7 => k_is); (case k8 => first | (dsimp only [AA]; omega) | (simp only [depth_under_make]; omega)); (case k9 => first | exact binds_K (by k_in) rfl (by k_is) rfl rfl rfl | exact BindsTo.of_eq rfl); (case c5 => decide); (case kB => exact locs rfl); (case c2 => exact rfl); (case c3 => exact rfl); (case c4 => exact rfl); k_whole; intro g' L' h' FG' F' N' B' X' T'; (try dsimp only); (try (with_reducible show wpAny _ _ _ _ _ _)); (try k_fold))
  k_steps
  all_goals (refine hret _ (_ :: news) _ _ ?_ (by k_asm) (keep1 (by assumption) (by intro q hq; repeat (first | exact hq | apply List.mem_cons_of_mem))); (try dsimp only); exact ⟨_, _, _, rfl, rfl⟩)

theorem quot_spec (w : World) (news : Led) (a b : Int × Int) (pa pb : Addr) (t1 u1 t2 u2 : Tok) (hpa : (pa, tup2 a.1 a.2 t1 u1) ∈ news) (hpb : (pb, tup2 b.1 b.2 t2 u2) ∈ news) (oa : PairOk a) (ob : PairOk b) (hb : b.1 ≠ 0) :
    Spec w (.ref 113) [.ref pa, .ref pb] 6 news (NewPair (quotP a b) news) := by
  unfold Spec; intro p loose mean mg mb dp un gd env outer A₀ base h₀ L m sh Q E hf hk B F X N T hd hu hret
  obtain ⟨a1, a2, a3⟩ := oa
  obtain ⟨b1, b2, b3⟩ := ob
  have hm : b.1 * 10 ^ a.2.toNat ≠ 0 := Int.mul_ne_zero hb (Int.pow_ne_zero (by decide))
  have hc : Bits (cutQ (a.1 * 10 ^ (30 + b.2).toNat) (b.1 * 10 ^ a.2.toNat)) 1500 := cutQ_bits (bits_mul (m := 100) (n := 400) a1 (bits_pow10 (by omega))) (by decide)
  refine wpAny_call ?_
  k_dflt (refine' code_def ?k1 ?k2 ?k3 ?k4 ?k5 ?kA ?kF ?kK ?k6 ?k7 ?k8 ?k9 ?kB ?_ ?c2 ?c3 ?c4 ?c5; (case kA => exact rfl); (case kF => exact hf); (case kK => exact hk); (case k1 => k_asm); (case k2 => k_asm); (case k3 => k_asm); (case k4 => k_asm); (case k5 => k_asm); (case k6 => k_is); (case k7 => k_is); (case k8 => first | (dsimp only [AA]; omega) | (simp only [depth_under_make]; omega)); (case k9 => first | exact binds_K (by k_in) rfl (by k_is) rfl rfl rfl | exact BindsTo.of_eq rfl); (case c5 => decide); (case kB => exact locs rfl); (case c2 => exact rfl); (case c3 => exact rfl); (case c4 => exact rfl); k_whole; intro g' L' h' FG' F' N' B' X' T'; (try dsimp only); (try (with_reducible show wpAny _ _ _ _ _ _)); (try k_fold))
  k_steps
  · exfalso; omega
  all_goals (refine hret _ (_ :: news) _ _ ?_ (by k_asm) (keep1 (by assumption) (by intro q hq; repeat (first | exact hq | apply List.mem_cons_of_mem))); (try dsimp only); exact ⟨_, _, _, rfl, rfl⟩)

theorem fits_true {u : Int} (h : Bits u 390) : (if u < 0 then -u else u) < 10 ^ (120 : Int).toNat := by
  have h1 : u.natAbs < 2 ^ 390 := lt_pow_of_bits h (Nat.le_refl _)
  have h2 : (2 : Nat) ^ 390 ≤ 10 ^ 120 := by decide +kernel
  have h3 : u.natAbs < 10 ^ 120 := Nat.lt_of_lt_of_le h1 h2
  have h4 : (10 : Int) ^ (120 : Int).toNat = ((10 ^ 120 : Nat) : Int) := by decide +kernel
  rw [h4]
  generalize (10 : Nat) ^ 120 = z at h3
  split <;> omega
theorem fits_ok (w : World) (news : Led) (u : Int) (k1 k2 : Tok) (hu9 : Bits u 390) :
    Spec w (.ref 120) [.int u k1, .int 120 k2] 2 news (fun v news' => news' = news ∧ v = .bool true) := by
  have h := fits_spec w news u 120 k1 k2 (by decide) (by decide)
  rw [decide_eq_true (fits_true hu9)] at h
  exact h
example : True := by
  k_with "call ref" => (k_here; (with_reducible show wpAny _ _ (PySem.call (Value.ref 120) _ _) _ _ _); k_dflt (refine' Spec.use (fits_ok _ _ _ _ _ ?kw_s1) ?kw_hf ?kw_hk ?kw_B ?kw_F ?kw_X ?kw_N ?kw_T ?kw_hd ?kw_hu ?_; (case kw_hf => exact rfl); (case kw_hk => exact rfl); (case kw_B => k_asm); (case kw_F => k_asm); (case kw_X => k_asm); (case kw_N => k_asm); (case kw_T => k_asm); (case kw_s1 => exact Nat.le_trans (by bits_by_make) (by decide)); (case kw_hd => first | (dsimp only [AA, Around.deeper]; omega) | decide +kernel); (case kw_hu => first | (dsimp only [AA, Around.deeper]; omega) | decide +kernel); k_whole; intro r9 n9 h9 tk9 R9 F9 N9; obtain ⟨e8, e9⟩ := R9; replace e8 := Eq.symm e8; replace e9 := Eq.symm e9; subst e8 e9; (try dsimp only); (try k_sweep); (try (with_reducible show wpAny _ _ _ _ _ _)); (try k_fold)))
  trivial

theorem kept_spec (w : World) (news : Led) (u s : Int) (k1 k2 : Tok) (hu9 : Bits u 390) (hs9 : s ≤ 30) (hs8 : 0 ≤ s) :
    Spec w (.ref 77) [.int u k1, .int s k2] 5 news (NewPair (decP u s) news) := by
  unfold Spec; intro p loose mean mg mb dp un gd env outer A₀ base h₀ L m sh Q E hf hk B F X N T hd hu hret
  refine wpAny_call ?_
  k_dflt (refine' code_def ?k1 ?k2 ?k3 ?k4 ?k5 ?kA ?kF ?kK ?k6 ?k7 ?k8 ?k9 ?kB ?_ ?c2 ?c3 ?c4 ?c5; (case kA => exact rfl); (case kF => exact hf); (case kK => exact hk); (case k1 => k_asm); (case k2 => k_asm); (case k3 => k_asm); (case k4 => k_asm); (case k5 => k_asm); (case k6 => k_is); (case k7 => k_is); (case k8 => first | (dsimp only [AA]; omega) | (simp only [depth_under_make]; omega)); (case k9 => first | exact binds_K (by k_in) rfl (by k_is) rfl rfl rfl | exact BindsTo.of_eq rfl); (case c5 => decide); (case kB => exact locs rfl); (case c2 => exact rfl); (case c3 => exact rfl); (case c4 => exact rfl); k_whole; intro g' L' h' FG' F' N' B' X' T'; (try dsimp only); (try (with_reducible show wpAny _ _ _ _ _ _)); (try k_fold))
  k_steps
  all_goals (refine hret _ (_ :: news) _ _ ?_ (by k_asm) (keep1 (by assumption) (by intro q hq; repeat (first | exact hq | apply List.mem_cons_of_mem))); (try dsimp only); exact ⟨_, _, _, rfl, rfl⟩)

example : True := by
  k_with "call ref" => (k_here; (with_reducible show wpAny _ _ (PySem.call (Value.ref 77) _ _) _ _ _); k_dflt (refine' Spec.use (kept_spec _ _ _ _ _ _ ?kw_s1 ?kw_s2 ?kw_s3) ?kw_hf ?kw_hk ?kw_B ?kw_F ?kw_X ?kw_N ?kw_T ?kw_hd ?kw_hu ?_; (case kw_hf => exact rfl); (case kw_hk => exact rfl); (case kw_B => k_asm); (case kw_F => k_asm); (case kw_X => k_asm); (case kw_N => k_asm); (case kw_T => k_asm); (case kw_s1 => exact Nat.le_trans (by bits_by_make) (by decide)); (case kw_s2 => omega); (case kw_s3 => omega); (case kw_hd => first | (dsimp only [AA, Around.deeper]; omega) | decide +kernel); (case kw_hu => first | (dsimp only [AA, Around.deeper]; omega) | decide +kernel); k_whole; intro r9 n9 h9 tk9 R9 F9 N9; obtain ⟨a9, t9, u9, e8, e9⟩ := R9; replace e8 := Eq.symm e8; replace e9 := Eq.symm e9; subst e8 e9; (try dsimp only); (try k_sweep); (try (with_reducible show wpAny _ _ _ _ _ _)); (try k_fold)))
  trivial

theorem times_spec (w : World) (news : Led) (a b : Int × Int) (pa pb : Addr) (t1 u1 t2 u2 : Tok) (hpa : (pa, tup2 a.1 a.2 t1 u1) ∈ news) (hpb : (pb, tup2 b.1 b.2 t2 u2) ∈ news) (oa : PairOk a) (ob : PairOk b) (hs : a.2 + b.2 ≤ 30) :
    Spec w (.ref 105) [.ref pa, .ref pb] 8 news (NewPair (timesP a b) news) := by
  unfold Spec; intro p loose mean mg mb dp un gd env outer A₀ base h₀ L m sh Q E hf hk B F X N T hd hu hret
  obtain ⟨a1, a2, a3⟩ := oa
  obtain ⟨b1, b2, b3⟩ := ob
  refine wpAny_call ?_
  k_dflt (refine' code_def ?k1 ?k2 ?k3 ?k4 ?k5 ?kA ?kF ?kK ?k6 ?k7 ?k8 ?k9 ?kB ?_ ?c2 ?c3 ?c4 ?c5; (case kA => exact rfl); (case kF => exact hf); (case kK => exact hk); (case k1 => k_asm); (case k2 => k_asm); (case k3 => k_asm); (case k4 => k_asm); (case k5 => k_asm); (case k6 => k_is); (case k7 => k_is); (case k8 => first | (dsimp only [AA]; omega) | (simp only [depth_under_make]; omega)); (case k9 => first | exact binds_K (by k_in) rfl (by k_is) rfl rfl rfl | exact BindsTo.of_eq rfl); (case c5 => decide); (case kB => exact locs rfl); (case c2 => exact rfl); (case c3 => exact rfl); (case c4 => exact rfl); k_whole; intro g' L' h' FG' F' N' B' X' T'; (try dsimp only); (try (with_reducible show wpAny _ _ _ _ _ _)); (try k_fold))
  k_steps
  all_goals (refine hret _ (_ :: news) _ _ ?_ (by k_asm) (keep1 (by assumption) (by intro q hq; repeat (first | exact hq | apply List.mem_cons_of_mem))); (try dsimp only); exact ⟨_, _, _, rfl, rfl⟩)
example : True := by
  k_with "call ref" => (k_here; (with_reducible show wpAny _ _ (PySem.call (Value.ref 91) _ _) _ _ _); k_dflt (refine' Spec.use (plus_spec _ _ _ _ _ _ _ _ _ _ ?kw_s1 ?kw_s2 ?kw_s3 ?kw_s4) ?kw_hf ?kw_hk ?kw_B ?kw_F ?kw_X ?kw_N ?kw_T ?kw_hd ?kw_hu ?_; (case kw_hf => exact rfl); (case kw_hk => exact rfl); (case kw_B => k_asm); (case kw_F => k_asm); (case kw_X => k_asm); (case kw_N => k_asm); (case kw_T => k_asm); (case kw_s1 => k_mem); (case kw_s2 => k_mem); (case kw_s3 => assumption); (case kw_s4 => assumption); (case kw_hd => first | (dsimp only [AA, Around.deeper]; omega) | decide +kernel); (case kw_hu => first | (dsimp only [AA, Around.deeper]; omega) | decide +kernel); k_whole; intro r9 n9 h9 tk9 R9 F9 N9; obtain ⟨a9, t9, u9, e8, e9⟩ := R9; replace e8 := Eq.symm e8; replace e9 := Eq.symm e9; subst e8 e9; (try dsimp only); (try k_sweep); (try (with_reducible show wpAny _ _ _ _ _ _)); (try k_fold)))
  trivial
example : True := by
  k_with "call ref" => (k_here; (with_reducible show wpAny _ _ (PySem.call (Value.ref 98) _ _) _ _ _); k_dflt (refine' Spec.use (minus_spec _ _ _ _ _ _ _ _ _ _ ?kw_s1 ?kw_s2 ?kw_s3 ?kw_s4) ?kw_hf ?kw_hk ?kw_B ?kw_F ?kw_X ?kw_N ?kw_T ?kw_hd ?kw_hu ?_; (case kw_hf => exact rfl); (case kw_hk => exact rfl); (case kw_B => k_asm); (case kw_F => k_asm); (case kw_X => k_asm); (case kw_N => k_asm); (case kw_T => k_asm); (case kw_s1 => k_mem); (case kw_s2 => k_mem); (case kw_s3 => assumption); (case kw_s4 => assumption); (case kw_hd => first | (dsimp only [AA, Around.deeper]; omega) | decide +kernel); (case kw_hu => first | (dsimp only [AA, Around.deeper]; omega) | decide +kernel); k_whole; intro r9 n9 h9 tk9 R9 F9 N9; obtain ⟨a9, t9, u9, e8, e9⟩ := R9; replace e8 := Eq.symm e8; replace e9 := Eq.symm e9; subst e8 e9; (try dsimp only); (try k_sweep); (try (with_reducible show wpAny _ _ _ _ _ _)); (try k_fold)))
  trivial
example : True := by
  k_with "call ref" => (k_here; (with_reducible show wpAny _ _ (PySem.call (Value.ref 105) _ _) _ _ _); k_dflt (refine' Spec.use (times_spec _ _ _ _ _ _ _ _ _ _ ?kw_s1 ?kw_s2 ?kw_s3 ?kw_s4 ?kw_s5) ?kw_hf ?kw_hk ?kw_B ?kw_F ?kw_X ?kw_N ?kw_T ?kw_hd ?kw_hu ?_; (case kw_hf => exact rfl); (case kw_hk => exact rfl); (case kw_B => k_asm); (case kw_F => k_asm); (case kw_X => k_asm); (case kw_N => k_asm); (case kw_T => k_asm); (case kw_s1 => k_mem); (case kw_s2 => k_mem); (case kw_s3 => assumption); (case kw_s4 => assumption); (case kw_s5 => assumption); (case kw_hd => first | (dsimp only [AA, Around.deeper]; omega) | decide +kernel); (case kw_hu => first | (dsimp only [AA, Around.deeper]; omega) | decide +kernel); k_whole; intro r9 n9 h9 tk9 R9 F9 N9; obtain ⟨a9, t9, u9, e8, e9⟩ := R9; replace e8 := Eq.symm e8; replace e9 := Eq.symm e9; subst e8 e9; (try dsimp only); (try k_sweep); (try (with_reducible show wpAny _ _ _ _ _ _)); (try k_fold)))
  trivial
example : True := by
  k_with "call ref" => (k_here; (with_reducible show wpAny _ _ (PySem.call (Value.ref 113) _ _) _ _ _); k_dflt (refine' Spec.use (quot_spec _ _ _ _ _ _ _ _ _ _ ?kw_s1 ?kw_s2 ?kw_s3 ?kw_s4 ?kw_s5) ?kw_hf ?kw_hk ?kw_B ?kw_F ?kw_X ?kw_N ?kw_T ?kw_hd ?kw_hu ?_; (case kw_hf => exact rfl); (case kw_hk => exact rfl); (case kw_B => k_asm); (case kw_F => k_asm); (case kw_X => k_asm); (case kw_N => k_asm); (case kw_T => k_asm); (case kw_s1 => k_mem); (case kw_s2 => k_mem); (case kw_s3 => assumption); (case kw_s4 => assumption); (case kw_s5 => assumption); (case kw_hd => first | (dsimp only [AA, Around.deeper]; omega) | decide +kernel); (case kw_hu => first | (dsimp only [AA, Around.deeper]; omega) | decide +kernel); k_whole; intro r9 n9 h9 tk9 R9 F9 N9; obtain ⟨a9, t9, u9, e8, e9⟩ := R9; replace e8 := Eq.symm e8; replace e9 := Eq.symm e9; subst e8 e9; (try dsimp only); (try k_sweep); (try (with_reducible show wpAny _ _ _ _ _ _)); (try k_fold)))
  trivial
inductive Way where
  | put | add | sub | mul | div
noncomputable def Way.str : Way → Str
  | .put => Str.ofString "="
  | .add => Str.ofString "+"
  | .sub => Str.ofString "-"
  | .mul => Str.ofString "*"
  | .div => Str.ofString "/"
noncomputable def wayP : Way → Int × Int → Int × Int → Int × Int
  | .put, _, b => b
  | .add, a, b => plusP a b
  | .sub, a, b => minusP a b
  | .mul, a, b => timesP a b
  | .div, a, b => quotP a b

theorem reck_spec (w : World) (news : Led) (way : Way) (a b : Int × Int) (pa pb : Addr) (k t1 u1 t2 u2 : Tok) (hpa : (pa, tup2 a.1 a.2 t1 u1) ∈ news) (hpb : (pb, tup2 b.1 b.2 t2 u2) ∈ news) (oa : PairOk a) (ob : PairOk b) (hs : a.2 + b.2 ≤ 30)
    (hw : way ≠ .put) (hb : way = .div → b.1 ≠ 0) :
    Spec w (.ref 127) [.str way.str k, .ref pa, .ref pb] 10 news (NewPair (wayP way a b) news) := by
  cases way with
  | put => exact absurd rfl hw
  | add =>
    dsimp only [Way.str, wayP]
    unfold Spec; intro p loose mean mg mb dp un gd env outer A₀ base h₀ L m sh Q E hf hk B F X N T hd hu hret
    refine wpAny_call ?_
    k_dflt (refine' code_def ?k1 ?k2 ?k3 ?k4 ?k5 ?kA ?kF ?kK ?k6 ?k7 ?k8 ?k9 ?kB ?_ ?c2 ?c3 ?c4 ?c5; (case kA => exact rfl); (case kF => exact hf); (case kK => exact hk); (case k1 => k_asm); (case k2 => k_asm); (case k3 => k_asm); (case k4 => k_asm); (case k5 => k_asm); (case k6 => k_is); (case k7 => k_is); (case k8 => first | (dsimp only [AA]; omega) | (simp only [depth_under_make]; omega)); (case k9 => first | exact binds_K (by k_in) rfl (by k_is) rfl rfl rfl | exact BindsTo.of_eq rfl); (case c5 => decide); (case kB => exact locs rfl); (case c2 => exact rfl); (case c3 => exact rfl); (case c4 => exact rfl); k_whole; intro g' L' h' FG' F' N' B' X' T'; (try dsimp only); (try (with_reducible show wpAny _ _ _ _ _ _)); (try k_fold))
    k_steps
    all_goals (refine hret _ (_ :: news) _ _ ?_ (by k_asm) (keep1 (by assumption) (by intro q hq; repeat (first | exact hq | apply List.mem_cons_of_mem))); (try dsimp only); exact ⟨_, _, _, rfl, rfl⟩)
  | sub =>
    dsimp only [Way.str, wayP]
    unfold Spec; intro p loose mean mg mb dp un gd env outer A₀ base h₀ L m sh Q E hf hk B F X N T hd hu hret
    refine wpAny_call ?_
    k_dflt (refine' code_def ?k1 ?k2 ?k3 ?k4 ?k5 ?kA ?kF ?kK ?k6 ?k7 ?k8 ?k9 ?kB ?_ ?c2 ?c3 ?c4 ?c5; (case kA => exact rfl); (case kF => exact hf); (case kK => exact hk); (case k1 => k_asm); (case k2 => k_asm); (case k3 => k_asm); (case k4 => k_asm); (case k5 => k_asm); (case k6 => k_is); (case k7 => k_is); (case k8 => first | (dsimp only [AA]; omega) | (simp only [depth_under_make]; omega)); (case k9 => first | exact binds_K (by k_in) rfl (by k_is) rfl rfl rfl | exact BindsTo.of_eq rfl); (case c5 => decide); (case kB => exact locs rfl); (case c2 => exact rfl); (case c3 => exact rfl); (case c4 => exact rfl); k_whole; intro g' L' h' FG' F' N' B' X' T'; (try dsimp only); (try (with_reducible show wpAny _ _ _ _ _ _)); (try k_fold))
    k_steps
    all_goals (refine hret _ (_ :: news) _ _ ?_ (by k_asm) (keep1 (by assumption) (by intro q hq; repeat (first | exact hq | apply List.mem_cons_of_mem))); (try dsimp only); exact ⟨_, _, _, rfl, rfl⟩)
  | mul =>
    dsimp only [Way.str, wayP]
    unfold Spec; intro p loose mean mg mb dp un gd env outer A₀ base h₀ L m sh Q E hf hk B F X N T hd hu hret
    refine wpAny_call ?_
    k_dflt (refine' code_def ?k1 ?k2 ?k3 ?k4 ?k5 ?kA ?kF ?kK ?k6 ?k7 ?k8 ?k9 ?kB ?_ ?c2 ?c3 ?c4 ?c5; (case kA => exact rfl); (case kF => exact hf); (case kK => exact hk); (case k1 => k_asm); (case k2 => k_asm); (case k3 => k_asm); (case k4 => k_asm); (case k5 => k_asm); (case k6 => k_is); (case k7 => k_is); (case k8 => first | (dsimp only [AA]; omega) | (simp only [depth_under_make]; omega)); (case k9 => first | exact binds_K (by k_in) rfl (by k_is) rfl rfl rfl | exact BindsTo.of_eq rfl); (case c5 => decide); (case kB => exact locs rfl); (case c2 => exact rfl); (case c3 => exact rfl); (case c4 => exact rfl); k_whole; intro g' L' h' FG' F' N' B' X' T'; (try dsimp only); (try (with_reducible show wpAny _ _ _ _ _ _)); (try k_fold))
    k_steps
    all_goals (refine hret _ (_ :: news) _ _ ?_ (by k_asm) (keep1 (by assumption) (by intro q hq; repeat (first | exact hq | apply List.mem_cons_of_mem))); (try dsimp only); exact ⟨_, _, _, rfl, rfl⟩)
  | div =>
    dsimp only [Way.str, wayP]
    unfold Spec; intro p loose mean mg mb dp un gd env outer A₀ base h₀ L m sh Q E hf hk B F X N T hd hu hret
    replace hb := hb rfl
    refine wpAny_call ?_
    k_dflt (refine' code_def ?k1 ?k2 ?k3 ?k4 ?k5 ?kA ?kF ?kK ?k6 ?k7 ?k8 ?k9 ?kB ?_ ?c2 ?c3 ?c4 ?c5; (case kA => exact rfl); (case kF => exact hf); (case kK => exact hk); (case k1 => k_asm); (case k2 => k_asm); (case k3 => k_asm); (case k4 => k_asm); (case k5 => k_asm); (case k6 => k_is); (case k7 => k_is); (case k8 => first | (dsimp only [AA]; omega) | (simp only [depth_under_make]; omega)); (case k9 => first | exact binds_K (by k_in) rfl (by k_is) rfl rfl rfl | exact BindsTo.of_eq rfl); (case c5 => decide); (case kB => exact locs rfl); (case c2 => exact rfl); (case c3 => exact rfl); (case c4 => exact rfl); k_whole; intro g' L' h' FG' F' N' B' X' T'; (try dsimp only); (try (with_reducible show wpAny _ _ _ _ _ _)); (try k_fold))
    k_steps
    all_goals (refine hret _ (_ :: news) _ _ ?_ (by k_asm) (keep1 (by assumption) (by intro q hq; repeat (first | exact hq | apply List.mem_cons_of_mem))); (try dsimp only); exact ⟨_, _, _, rfl, rfl⟩)
example : True := by
  k_with "call ref" => (k_here; (with_reducible show wpAny _ _ (PySem.call (Value.ref 127) _ _) _ _ _); k_dflt (refine' Spec.use (reck_spec _ _ .add _ _ _ _ _ _ _ _ _ ?kw_s1 ?kw_s2 ?kw_s3 ?kw_s4 ?kw_s5 ?kw_s6 ?kw_s7) ?kw_hf ?kw_hk ?kw_B ?kw_F ?kw_X ?kw_N ?kw_T ?kw_hd ?kw_hu ?_; (case kw_hf => exact rfl); (case kw_hk => exact rfl); (case kw_B => k_asm); (case kw_F => k_asm); (case kw_X => k_asm); (case kw_N => k_asm); (case kw_T => k_asm); (case kw_s1 => k_mem); (case kw_s2 => k_mem); (case kw_s3 => assumption); (case kw_s4 => assumption); (case kw_s5 => assumption); (case kw_s6 => nofun); (case kw_s7 => nofun); (case kw_hd => first | (dsimp only [AA, Around.deeper]; omega) | decide +kernel); (case kw_hu => first | (dsimp only [AA, Around.deeper]; omega) | decide +kernel); k_whole; intro r9 n9 h9 tk9 R9 F9 N9; obtain ⟨a9, t9, u9, e8, e9⟩ := R9; replace e8 := Eq.symm e8; replace e9 := Eq.symm e9; subst e8 e9; (try dsimp only); (try k_sweep); (try (with_reducible show wpAny _ _ _ _ _ _)); (try k_fold)))
  trivial
example : True := by
  k_with "call ref" => (k_here; (with_reducible show wpAny _ _ (PySem.call (Value.ref 127) _ _) _ _ _); k_dflt (refine' Spec.use (reck_spec _ _ .sub _ _ _ _ _ _ _ _ _ ?kw_s1 ?kw_s2 ?kw_s3 ?kw_s4 ?kw_s5 ?kw_s6 ?kw_s7) ?kw_hf ?kw_hk ?kw_B ?kw_F ?kw_X ?kw_N ?kw_T ?kw_hd ?kw_hu ?_; (case kw_hf => exact rfl); (case kw_hk => exact rfl); (case kw_B => k_asm); (case kw_F => k_asm); (case kw_X => k_asm); (case kw_N => k_asm); (case kw_T => k_asm); (case kw_s1 => k_mem); (case kw_s2 => k_mem); (case kw_s3 => assumption); (case kw_s4 => assumption); (case kw_s5 => assumption); (case kw_s6 => nofun); (case kw_s7 => nofun); (case kw_hd => first | (dsimp only [AA, Around.deeper]; omega) | decide +kernel); (case kw_hu => first | (dsimp only [AA, Around.deeper]; omega) | decide +kernel); k_whole; intro r9 n9 h9 tk9 R9 F9 N9; obtain ⟨a9, t9, u9, e8, e9⟩ := R9; replace e8 := Eq.symm e8; replace e9 := Eq.symm e9; subst e8 e9; (try dsimp only); (try k_sweep); (try (with_reducible show wpAny _ _ _ _ _ _)); (try k_fold)))
  trivial
example : True := by
  k_with "call ref" => (k_here; (with_reducible show wpAny _ _ (PySem.call (Value.ref 127) _ _) _ _ _); k_dflt (refine' Spec.use (reck_spec _ _ .mul _ _ _ _ _ _ _ _ _ ?kw_s1 ?kw_s2 ?kw_s3 ?kw_s4 ?kw_s5 ?kw_s6 ?kw_s7) ?kw_hf ?kw_hk ?kw_B ?kw_F ?kw_X ?kw_N ?kw_T ?kw_hd ?kw_hu ?_; (case kw_hf => exact rfl); (case kw_hk => exact rfl); (case kw_B => k_asm); (case kw_F => k_asm); (case kw_X => k_asm); (case kw_N => k_asm); (case kw_T => k_asm); (case kw_s1 => k_mem); (case kw_s2 => k_mem); (case kw_s3 => assumption); (case kw_s4 => assumption); (case kw_s5 => assumption); (case kw_s6 => nofun); (case kw_s7 => nofun); (case kw_hd => first | (dsimp only [AA, Around.deeper]; omega) | decide +kernel); (case kw_hu => first | (dsimp only [AA, Around.deeper]; omega) | decide +kernel); k_whole; intro r9 n9 h9 tk9 R9 F9 N9; obtain ⟨a9, t9, u9, e8, e9⟩ := R9; replace e8 := Eq.symm e8; replace e9 := Eq.symm e9; subst e8 e9; (try dsimp only); (try k_sweep); (try (with_reducible show wpAny _ _ _ _ _ _)); (try k_fold)))
  trivial
example : True := by
  k_with "call ref" => (k_here; (with_reducible show wpAny _ _ (PySem.call (Value.ref 127) _ _) _ _ _); k_dflt (refine' Spec.use (reck_spec _ _ .div _ _ _ _ _ _ _ _ _ ?kw_s1 ?kw_s2 ?kw_s3 ?kw_s4 ?kw_s5 ?kw_s6 ?kw_s7) ?kw_hf ?kw_hk ?kw_B ?kw_F ?kw_X ?kw_N ?kw_T ?kw_hd ?kw_hu ?_; (case kw_hf => exact rfl); (case kw_hk => exact rfl); (case kw_B => k_asm); (case kw_F => k_asm); (case kw_X => k_asm); (case kw_N => k_asm); (case kw_T => k_asm); (case kw_s1 => k_mem); (case kw_s2 => k_mem); (case kw_s3 => assumption); (case kw_s4 => assumption); (case kw_s5 => assumption); (case kw_s6 => nofun); (case kw_s7 => (intro _; assumption)); (case kw_hd => first | (dsimp only [AA, Around.deeper]; omega) | decide +kernel); (case kw_hu => first | (dsimp only [AA, Around.deeper]; omega) | decide +kernel); k_whole; intro r9 n9 h9 tk9 R9 F9 N9; obtain ⟨a9, t9, u9, e8, e9⟩ := R9; replace e8 := Eq.symm e8; replace e9 := Eq.symm e9; subst e8 e9; (try dsimp only); (try k_sweep); (try (with_reducible show wpAny _ _ _ _ _ _)); (try k_fold)))
  trivial

/-- a sort: its figures, its places, whether it keeps the sign -/
structure Srt where
  d : Int
  p : Int
  sg : Bool
structure SrtOk (x : Srt) : Prop where
  d0 : 0 ≤ x.d
  d1 : x.d ≤ 6
  p0 : -4 ≤ x.p
  p1 : x.p ≤ 4
/-- the sort's triple lies at an address: among the text's own objects, or on the ledger -/
noncomputable abbrev tupS (x : Srt) (t u : Tok) : Obj := { cls := .type "tuple", data := .seq [Value.int x.d t, Value.int x.p u, Value.bool x.sg].toArray }
noncomputable def SrtAt (w : World) (news : Led) (a : Addr) (x : Srt) : Prop := ∃ t u, (a, tupS x t u) ∈ news ∨ (hd.heap_39 w.params).lookup a = some (tupS x t u)

theorem SrtAt.mono {w : World} {news news' : Led} {a : Addr} {x : Srt} (h : SrtAt w news a x) (hs : ∀ q ∈ news, q ∈ news') : SrtAt w news' a x :=
  let ⟨t, u, h⟩ := h; ⟨t, u, h.imp (hs _) id⟩
theorem srt_tup {w : World} {news news' : Led} {a L : Addr} {x : Srt} {t u : Tok} {h₀ h : Heap} {m : Str → Option Value} (hx : (a, tupS x t u) ∈ news ∨ (hd.heap_39 w.params).lookup a = some (tupS x t u)) (N : News h₀ L h news') (hs : ∀ q ∈ news, q ∈ news')
    (X : (hd.heap_39 w.params).In h₀) (F : Fr h₀ L h m) : IsTup h a [Value.int x.d t, Value.int x.p u, Value.bool x.sg].toArray := by
  rcases hx with hx | hx
  · exact News.isTup N (hs _ hx)
  · exact tupK (X.keeps F.keep) hx
example : True := by
  k_with "subscriptTail" => (k_here; (with_reducible show wpAny _ _ (subscriptTail _ _ (Value.ref _) (Value.int _ _)) _ _ _); k_dflt (refine' item_tupleT (srt_tup ?kw_x ?kw_N ?kw_S ?kw_X ?kw_F) ?kw_a ?kw_b ?kw_c ?kw_d ?_; (case kw_x => assumption); (case kw_N => k_asm); (case kw_S => intro q hq; repeat (first | exact hq | apply List.mem_cons_of_mem)); (case kw_X => k_asm); (case kw_F => k_asm); (case kw_a => decide); (case kw_b => decide); (case kw_c => rfl); (case kw_d => rfl)))
  trivial

noncomputable def fitP (u : Int) (x : Srt) : Option Int := if (10 : Int) ^ x.d.toNat ≤ (if u < 0 then -u else u) then none else some (if x.sg = true then u else (if u < 0 then -u else u))
noncomputable def optV (o : Option Int) (v : Value) : Prop := match o with
  | none => v = .none
  | some i => ∃ k, v = .int i k

theorem fitP_none {u : Int} {x : Srt} (h : (10 : Int) ^ x.d.toNat ≤ (if u < 0 then -u else u)) : optV (fitP u x) .none := by
  unfold fitP; rw [if_pos h]; rfl
theorem fitP_sg {u : Int} {x : Srt} {k : Tok} (h : ¬ (10 : Int) ^ x.d.toNat ≤ (if u < 0 then -u else u)) (hs : x.sg = true) : optV (fitP u x) (.int u k) := by
  unfold fitP; rw [if_neg h, if_pos hs]; exact ⟨_, rfl⟩
theorem fitP_ab {u : Int} {x : Srt} {k : Tok} (h : ¬ (10 : Int) ^ x.d.toNat ≤ (if u < 0 then -u else u)) (hs : x.sg = false) : optV (fitP u x) (.int (if u < 0 then -u else u) k) := by
  unfold fitP; rw [if_neg h, if_neg (by rw [hs]; decide)]; exact ⟨_, rfl⟩

theorem fitted_spec (w : World) (news : Led) (u : Int) (x : Srt) (a : Addr) (k : Tok) (hx : SrtAt w news a x) (ox : SrtOk x) :
    Spec w (.ref 170) [.int u k, .ref a] 3 news (fun v news' => news' = news ∧ optV (fitP u x) v) := by
  obtain ⟨t, u', hx⟩ := hx
  unfold Spec; intro p loose mean mg mb dp un gd env outer A₀ base h₀ L m sh Q E hf hk B F X N T hd hu hret
  obtain ⟨x1, x2, x3, x4⟩ := ox
  refine wpAny_call ?_
  k_dflt (refine' code_def ?k1 ?k2 ?k3 ?k4 ?k5 ?kA ?kF ?kK ?k6 ?k7 ?k8 ?k9 ?kB ?_ ?c2 ?c3 ?c4 ?c5; (case kA => exact rfl); (case kF => exact hf); (case kK => exact hk); (case k1 => k_asm); (case k2 => k_asm); (case k3 => k_asm); (case k4 => k_asm); (case k5 => k_asm); (case k6 => k_is); (case k7 => k_is); (case k8 => first | (dsimp only [AA]; omega) | (simp only [depth_under_make]; omega)); (case k9 => first | exact binds_K (by k_in) rfl (by k_is) rfl rfl rfl | exact BindsTo.of_eq rfl); (case c5 => decide); (case kB => exact locs rfl); (case c2 => exact rfl); (case c3 => exact rfl); (case c4 => exact rfl); k_whole; intro g' L' h' FG' F' N' B' X' T'; (try dsimp only); (try (with_reducible show wpAny _ _ _ _ _ _)); (try k_fold))
  k_steps
  all_goals (refine hret _ _ _ _ ⟨rfl, ?_⟩ (by k_asm) (by k_asm))
  all_goals (first | exact fitP_none (by assumption) | exact fitP_sg (by assumption) (by assumption) | exact fitP_ab (by assumption) (by assumption))
example : True := by
  k_with "call ref" => (k_here; (with_reducible show wpAny _ _ (PySem.call (Value.ref 170) _ _) _ _ _); k_dflt (refine' Spec.use (fitted_spec _ _ _ _ _ _ ?kw_s1 ?kw_s2) ?kw_hf ?kw_hk ?kw_B ?kw_F ?kw_X ?kw_N ?kw_T ?kw_hd ?kw_hu ?_; (case kw_hf => exact rfl); (case kw_hk => exact rfl); (case kw_B => k_asm); (case kw_F => k_asm); (case kw_X => k_asm); (case kw_N => k_asm); (case kw_T => k_asm); (case kw_s1 => exact SrtAt.mono (by assumption) (by intro q hq; repeat (first | exact hq | apply List.mem_cons_of_mem))); (case kw_s2 => assumption); (case kw_hd => first | (dsimp only [AA, Around.deeper]; omega) | decide +kernel); (case kw_hu => first | (dsimp only [AA, Around.deeper]; omega) | decide +kernel); k_whole; intro r9 n9 h9 tk9 R9 F9 N9; obtain ⟨e8, e9⟩ := R9; replace e8 := Eq.symm e8; subst e8; (try dsimp only); (try k_sweep); (try (with_reducible show wpAny _ _ _ _ _ _)); (try k_fold)))
  trivial
noncomputable def takeD : List Int → Int → Int
  | [], _ => 0
  | x :: _, m => x.fmod m
noncomputable def takeL : List Int → Int → List Int
  | [], _ => []
  | x :: r, m => if x.fdiv m = 0 then r else x.fdiv m :: r
noncomputable abbrev listO (vs : List Value) (n : Nat) : Obj := { cls := .type "list", data := .seq vs.toArray n }
structure PoolOk (ns : List Int) : Prop where
  len : ns.length ≤ 24
  lo : ∀ x ∈ ns, 0 ≤ x
  bits : ∀ x ∈ ns, Bits x 300

theorem ints_pop {vs : List Value} {ns : List Int} {x m : Int} (hi : IntsAre vs ns) (h : x.fdiv m = 0) : IntsAre vs (takeL (x :: ns) m) := by
  rw [takeL, if_pos h]; exact hi
theorem ints_keep {vs : List Value} {ns : List Int} {x m : Int} {t : Tok} (hi : IntsAre vs ns) (h : x.fdiv m ≠ 0) : IntsAre (.int (x.fdiv m) t :: vs) (takeL (x :: ns) m) := by
  rw [takeL, if_neg h]; exact .cons _ _ hi
section
variable {prog : Program} {w : World} {A : Around} {E : Value → Shared → Prop} {s : Shared} {h₀ : Heap} {L : Addr} {m : Str → Option Value} {rest : Led} {pa : Addr} {v : Value} {vs : List Value} {n : Nat} {t : Tok} {Q : Value → Shared → Prop}
theorem pop0 (F : Fr h₀ L s.heap m) (N : News h₀ L s.heap ((pa, listO (v :: vs) n) :: rest)) (hne : ∀ p ∈ rest, p.1 ≠ pa) (hz : vs.length ≤ 100)
    (h : ∀ h', Fr h₀ L h' m → News h₀ L h' ((pa, listO vs (n + 1)) :: rest) → Q v { s with heap := h' }) : wpAny (model prog w) A (call (.builtin "list.pop") [.ref pa, .int 0 t]) Q E s :=
  kl_popAt (its := (v :: vs).toArray) (k := 0) (p := []) (q := vs) F N (by decide) (by simp [seqIndex?]) rfl (Upd.head hne) (by rw [sizeLine_eq]; simp; omega) h
end
example : True := by
  k_with "call builtin:list.pop" => (k_here; (show wpAny _ _ (call (Value.builtin _) [Value.ref _, Value.int _ _]) _ _ _); k_dflt (refine' pop0 ?kw_F ?kw_N ?kw_hne ?kw_z ?_; (case kw_F => k_asm); (case kw_N => k_asm); (case kw_hne => assumption); (case kw_z => first | omega | (simp only [List.length_cons] at *; omega))); intro h' F' N'; (try k_sweep))
  trivial
theorem take_spec (w : World) (rest : Led) (pa : Addr) (vs : List Value) (ns : List Int) (n : Nat) (many : Int) (k : Tok) (hi : IntsAre vs ns) (hne : ∀ p ∈ rest, p.1 ≠ pa) (ok : PoolOk ns) (hm : 0 < many) (hmb : Bits many 9000) :
    Spec w (.ref 156) [.ref pa, .int many k] 3 ((pa, listO vs n) :: rest) (fun v news' => ∃ vs' n' k', IntsAre vs' (takeL ns many) ∧ news' = (pa, listO vs' n') :: rest ∧ v = .int (takeD ns many) k') := by
  have hm0 : many ≠ 0 := by omega
  obtain ⟨ok1, ok2, ok3⟩ := ok
  cases hi with
  | nil =>
    unfold Spec; intro p loose mean mg mb dp un gd env outer A₀ base h₀ L m sh Q E hf hk B F X N T hd hu hret
    refine wpAny_call ?_
    k_dflt (refine' code_def ?k1 ?k2 ?k3 ?k4 ?k5 ?kA ?kF ?kK ?k6 ?k7 ?k8 ?k9 ?kB ?_ ?c2 ?c3 ?c4 ?c5; (case kA => exact rfl); (case kF => exact hf); (case kK => exact hk); (case k1 => k_asm); (case k2 => k_asm); (case k3 => k_asm); (case k4 => k_asm); (case k5 => k_asm); (case k6 => k_is); (case k7 => k_is); (case k8 => first | (dsimp only [AA]; omega) | (simp only [depth_under_make]; omega)); (case k9 => first | exact binds_K (by k_in) rfl (by k_is) rfl rfl rfl | exact BindsTo.of_eq rfl); (case c5 => decide); (case kB => exact locs rfl); (case c2 => exact rfl); (case c3 => exact rfl); (case c4 => exact rfl); k_whole; intro g' L' h' FG' F' N' B' X' T'; (try dsimp only); (try (with_reducible show wpAny _ _ _ _ _ _)); (try k_fold))
    k_steps
    all_goals (refine hret _ _ _ _ ⟨_, _, _, ?_, rfl, rfl⟩ (by k_asm) (by k_asm))
    all_goals exact .nil
  | cons x t hi =>
    rename_i vs ns
    have hi2 := IntsAre.cons x t hi
    have hl : ns.length ≤ 23 := by simp only [List.length_cons] at ok1; omega
    have hvl : vs.length = ns.length := IntsAre.length hi
    have hx0 : 0 ≤ x := ok2 x (List.mem_cons_self ..)
    have hxb : Bits x 300 := ok3 x (List.mem_cons_self ..)
    unfold Spec; intro p loose mean mg mb dp un gd env outer A₀ base h₀ L m sh Q E hf hk B F X N T hd hu hret
    refine wpAny_call ?_
    k_dflt (refine' code_def ?k1 ?k2 ?k3 ?k4 ?k5 ?kA ?kF ?kK ?k6 ?k7 ?k8 ?k9 ?kB ?_ ?c2 ?c3 ?c4 ?c5; (case kA => exact rfl); (case kF => exact hf); (case kK => exact hk); (case k1 => k_asm); (case k2 => k_asm); (case k3 => k_asm); (case k4 => k_asm); (case k5 => k_asm); (case k6 => k_is); (case k7 => k_is); (case k8 => first | (dsimp only [AA]; omega) | (simp only [depth_under_make]; omega)); (case k9 => first | exact binds_K (by k_in) rfl (by k_is) rfl rfl rfl | exact BindsTo.of_eq rfl); (case c5 => decide); (case kB => exact locs rfl); (case c2 => exact rfl); (case c3 => exact rfl); (case c4 => exact rfl); k_whole; intro g' L' h' FG' F' N' B' X' T'; (try dsimp only); (try (with_reducible show wpAny _ _ _ _ _ _)); (try k_fold))
    k_steps
    · exfalso; omega
    all_goals (refine hret _ _ _ _ ⟨_, _, _, ?_, rfl, rfl⟩ (by k_asm) (by k_asm))
    all_goals (first | exact ints_pop hi (by assumption) | exact ints_keep hi (by assumption))
noncomputable def ownP (h : Int) (x : Srt) : Int × Int := (h * 10 ^ (max 0 (-x.p)).toNat, 10 ^ (max 0 x.p).toNat)
noncomputable def lrP : Way → Int × Int → Int × Int → Int × Int
  | .put, _, b => b
  | .add, a, b => (a.1 * b.2 + b.1 * a.2, a.2 * b.2)
  | .sub, a, b => (a.1 * b.2 - b.1 * a.2, a.2 * b.2)
  | .mul, a, b => (a.1 * b.1, a.2 * b.2)
  | .div, a, b => (a.1 * b.2, a.2 * b.1)
noncomputable def rowP (h : Int) (x : Srt) (wo : Int × Int) (r : Bool) (way : Way) : Option Int :=
  if (lrP way (ownP h x) (wo.1, 10 ^ wo.2.toNat)).2 = 0 then none else
    fitP (cutR ((lrP way (ownP h x) (wo.1, 10 ^ wo.2.toNat)).1 * 10 ^ (max 0 x.p).toNat) ((lrP way (ownP h x) (wo.1, 10 ^ wo.2.toNat)).2 * 10 ^ (max 0 (-x.p)).toNat) r) x
theorem rowP_none {h : Int} {x : Srt} {wo : Int × Int} {r : Bool} {way : Way} (hz : (lrP way (ownP h x) (wo.1, 10 ^ wo.2.toNat)).2 = 0) : optV (rowP h x wo r way) .none := by
  unfold rowP; rw [if_pos hz]; rfl
theorem rowP_some {h : Int} {x : Srt} {wo : Int × Int} {r : Bool} {way : Way} {v : Value} (hz : (lrP way (ownP h x) (wo.1, 10 ^ wo.2.toNat)).2 ≠ 0)
    (hv : optV (fitP (cutR ((lrP way (ownP h x) (wo.1, 10 ^ wo.2.toNat)).1 * 10 ^ (max 0 x.p).toNat) ((lrP way (ownP h x) (wo.1, 10 ^ wo.2.toNat)).2 * 10 ^ (max 0 (-x.p)).toNat) r) x) v) : optV (rowP h x wo r way) v := by
  unfold rowP; rw [if_neg hz]; exact hv
section
variable {M : Model} {A : Around} {env : Env}
/-- cuts between the statements of a def -/
noncomputable def CutF (Mid : Shared → Prop) (f : Flow) (s' : Shared) : Prop := f = .next ∧ Mid s'
theorem cut {st : Stmt} {rest : List Stmt} {Q : Flow → Shared → Prop} {E : Value → Shared → Prop} {s : Shared} (Mid : Shared → Prop) (h1 : wpAny M A (exec st env) (CutF Mid) E s) (h2 : ∀ s', Mid s' → wpAny M A (execs rest env) Q E s') :
    wpAny M A (execs (st :: rest) env) Q E s :=
  wpAny_execs_cons (wpAny_mono h1 (fun f s' ⟨e, hm⟩ => by subst e; exact h2 s' hm) (fun _ _ e => e))
end
noncomputable abbrev nOwn : Str := PySem.Str.ofString "own"
noncomputable abbrev nOther : Str := PySem.Str.ofString "other"
noncomputable abbrev nSort : Str := PySem.Str.ofString "sort"
noncomputable abbrev nIsR : Str := PySem.Str.ofString "is_rounded"
noncomputable abbrev nWay : Str := PySem.Str.ofString "way"
noncomputable def RowA1 (h₀ : Heap) (L : Addr) (p q : Int × Int) (sa : Addr) (r : Bool) (ws : Str) (k2 : Tok) (news : Led) (s₀ s' : Shared) : Prop :=
  ∀ P : Shared → Prop, (∀ h tk na oa t1 u1 t2 u2 m led, Fr h₀ L h m → News h₀ L h led → (na, tup2 p.1 p.2 t1 u1) ∈ led → (oa, tup2 q.1 q.2 t2 u2) ∈ led → (∀ z ∈ news, z ∈ led) →
    m nOwn = some (.ref na) → m nOther = some (.ref oa) → m nSort = some (.ref sa) → m nIsR = some (.bool r) → m nWay = some (.str ws k2) → P { s₀ with heap := h, toks := tk }) → P s'
noncomputable def RowA2 (h₀ : Heap) (L : Addr) (q : Int × Int) (sa : Addr) (r : Bool) (news : Led) (s₀ s' : Shared) : Prop :=
  ∀ P : Shared → Prop, (∀ h tk oa t2 u2 m led, Fr h₀ L h m → News h₀ L h led → (oa, tup2 q.1 q.2 t2 u2) ∈ led → (∀ z ∈ news, z ∈ led) →
    m nOther = some (.ref oa) → m nSort = some (.ref sa) → m nIsR = some (.bool r) → P { s₀ with heap := h, toks := tk }) → P s'
section
variable {M : Model} {A : Around} {env : Env} {st : Stmt} {rest : List Stmt} {Q : Flow → Shared → Prop} {E : Value → Shared → Prop} {s₀ : Shared} {h₀ : Heap} {L : Addr} {m₀ : Str → Option Value} {p q : Int × Int} {sa : Addr} {r : Bool} {ws : Str} {k2 : Tok} {news : Led}
theorem cut_row1 (p q : Int × Int) (sa : Addr) (r : Bool) (ws : Str) (k2 : Tok) (news : Led) (_F : Fr h₀ L s₀.heap m₀) (h1 : wpAny M A (exec st env) (CutF (RowA1 h₀ L p q sa r ws k2 news s₀)) E s₀)
    (h2 : ∀ h tk na oa t1 u1 t2 u2 m led, Fr h₀ L h m → News h₀ L h led → (na, tup2 p.1 p.2 t1 u1) ∈ led → (oa, tup2 q.1 q.2 t2 u2) ∈ led → (∀ z ∈ news, z ∈ led) →
      m nOwn = some (.ref na) → m nOther = some (.ref oa) → m nSort = some (.ref sa) → m nIsR = some (.bool r) → m nWay = some (.str ws k2) → wpAny M A (execs rest env) Q E { s₀ with heap := h, toks := tk }) : wpAny M A (execs (st :: rest) env) Q E s₀ :=
  cut _ h1 fun _ H => H (wpAny M A (execs rest env) Q E) h2
theorem cut_row2 (q : Int × Int) (sa : Addr) (r : Bool) (news : Led) (_F : Fr h₀ L s₀.heap m₀) (h1 : wpAny M A (exec st env) (CutF (RowA2 h₀ L q sa r news s₀)) E s₀)
    (h2 : ∀ h tk oa t2 u2 m led, Fr h₀ L h m → News h₀ L h led → (oa, tup2 q.1 q.2 t2 u2) ∈ led → (∀ z ∈ news, z ∈ led) →
      m nOther = some (.ref oa) → m nSort = some (.ref sa) → m nIsR = some (.bool r) → wpAny M A (execs rest env) Q E { s₀ with heap := h, toks := tk }) : wpAny M A (execs (st :: rest) env) Q E s₀ :=
  cut _ h1 fun _ H => H (wpAny M A (execs rest env) Q E) h2
theorem end_row1 {h : Heap} {tk : Nat} {na oa : Addr} {t1 u1 t2 u2 : Tok} {m : Str → Option Value} {led : Led} (F : Fr h₀ L h m) (N : News h₀ L h led) (a1 : (na, tup2 p.1 p.2 t1 u1) ∈ led) (a2 : (oa, tup2 q.1 q.2 t2 u2) ∈ led) (a3 : ∀ z ∈ news, z ∈ led)
    (b1 : m nOwn = some (.ref na)) (b2 : m nOther = some (.ref oa)) (b3 : m nSort = some (.ref sa)) (b4 : m nIsR = some (.bool r)) (b5 : m nWay = some (.str ws k2)) : CutF (RowA1 h₀ L p q sa r ws k2 news s₀) .next { s₀ with heap := h, toks := tk } :=
  ⟨rfl, fun _ k => k h tk na oa t1 u1 t2 u2 m led F N a1 a2 a3 b1 b2 b3 b4 b5⟩
theorem end_row2 {h : Heap} {tk : Nat} {oa : Addr} {t2 u2 : Tok} {m : Str → Option Value} {led : Led} (F : Fr h₀ L h m) (N : News h₀ L h led) (a2 : (oa, tup2 q.1 q.2 t2 u2) ∈ led) (a3 : ∀ z ∈ news, z ∈ led)
    (b2 : m nOther = some (.ref oa)) (b3 : m nSort = some (.ref sa)) (b4 : m nIsR = some (.bool r)) : CutF (RowA2 h₀ L q sa r news s₀) .next { s₀ with heap := h, toks := tk } :=
  ⟨rfl, fun _ k => k h tk oa t2 u2 m led F N a2 a3 b2 b3 b4⟩
end
theorem lr_bits {way : Way} {p q : Int × Int} (h1 : Bits p.1 430) (h2 : Bits p.2 400) (h3 : Bits q.1 100) (h4 : Bits q.2 400) : Bits (lrP way p q).1 2000 ∧ Bits (lrP way p q).2 2000 := by
  cases way <;> dsimp only [lrP] <;> constructor <;> exact Nat.le_trans (by bits_by_make) (by decide)
theorem row_spec (w : World) (news : Led) (h : Int) (x : Srt) (wo : Int × Int) (r : Bool) (way : Way) (sa wa : Addr) (k k2 t1 u1 : Tok) (hx : SrtAt w news sa x) (ox : SrtOk x) (hw : (wa, tup2 wo.1 wo.2 t1 u1) ∈ news) (ow : PairOk wo) (hh : Bits h 30) :
    Spec w (.ref 177) [.int h k, .ref sa, .ref wa, .bool r, .str way.str k2] 8 news (fun v news' => news' = news ∧ optV (rowP h x wo r way) v) := by
  have hx0 := hx
  obtain ⟨t, u', hx⟩ := hx
  have ox0 := ox
  obtain ⟨x1, x2, x3, x4⟩ := ox
  obtain ⟨w1, w2, w3⟩ := ow
  unfold Spec; intro p loose mean mg mb dp un gd env outer A₀ base h₀ L m sh Q E hf hk B F X N T hd hu hret
  refine wpAny_call ?_
  k_dflt (refine' code_def ?k1 ?k2 ?k3 ?k4 ?k5 ?kA ?kF ?kK ?k6 ?k7 ?k8 ?k9 ?kB ?_ ?c2 ?c3 ?c4 ?c5; (case kA => exact rfl); (case kF => exact hf); (case kK => exact hk); (case k1 => k_asm); (case k2 => k_asm); (case k3 => k_asm); (case k4 => k_asm); (case k5 => k_asm); (case k6 => k_is); (case k7 => k_is); (case k8 => first | (dsimp only [AA]; omega) | (simp only [depth_under_make]; omega)); (case k9 => first | exact binds_K (by k_in) rfl (by k_is) rfl rfl rfl | exact BindsTo.of_eq rfl); (case c5 => decide); (case kB => exact locs rfl); (case c2 => exact rfl); (case c3 => exact rfl); (case c4 => exact rfl); k_whole; intro g' L' h' FG' F' N' B' X' T'; (try dsimp only); (try (with_reducible show wpAny _ _ _ _ _ _)); (try k_fold))
  refine cut_row1 (ownP h x) (wo.1, 10 ^ wo.2.toNat) sa r way.str k2 news F' ?s1 ?r1
  case s1 =>
    k_fold
    k_steps
    rename Fr g' _ _ _ => F8
    rename News g' _ _ _ => N8
    exact end_row1 F8 N8 (by k_mem) (by k_mem) (by intro q hq; repeat (first | exact hq | apply List.mem_cons_of_mem)) rfl rfl rfl rfl rfl
  case r1 =>
    have hp1 : Bits (ownP h x).1 430 := Nat.le_trans (by dsimp only [ownP]; bits_by_make) (by decide)
    have hp2 : Bits (ownP h x).2 400 := bits_pow10 (by omega)
    have hq2 : Bits ((10 : Int) ^ wo.2.toNat) 400 := bits_pow10 (by omega)
    clear F' N'
    intro h1 tk1 na oa t1 u1 t2 u2 m1 led F1 N1 a1 a2 a3 b1 b2 b3 b4 b5
    (k_with "eval Name" => (k_here; k_dflt (refine' ld ?kw_k1 ?kw_k2 ?_; (case kw_k1 => k_asm); (case kw_k2 => assumption); k_whole)))
    dsimp only at a2 ⊢
    have hb := lr_bits (way := way) (q := (wo.1, 10 ^ wo.2.toNat)) hp1 hp2 w1 hq2
    have hrn := fun hz => rowP_none (h := h) (x := x) (wo := wo) (r := r) (way := way) hz
    have hrs := fun v hz hv => rowP_some (h := h) (x := x) (wo := wo) (r := r) (way := way) (v := v) hz hv
    refine cut_row2 (lrP way (ownP h x) (wo.1, 10 ^ wo.2.toNat)) sa r news F1 ?s2 ?r2
    case s2 =>
      clear hb hrn hrs hret
      generalize ownP h x = pp at *
      k_fold
      cases way
      all_goals (
        dsimp only [Way.str] at b5
        k_steps
        rename Fr _ _ _ _ => F8
        rename News _ _ _ _ => N8
        exact end_row2 F8 N8 (by k_mem) (by intro z hz; have hz := a3 z hz; repeat (first | exact hz | apply List.mem_cons_of_mem)) (by first | assumption | exact rfl) (by first | assumption | exact b3) (by first | assumption | exact b4))
    case r2 =>
      clear F1 N1 a1 a2 a3 b1 b2 b3 b4 b5
      generalize lrP way (ownP h x) (wo.1, 10 ^ wo.2.toNat) = cc at *
      obtain ⟨hc1, hc2⟩ := hb
      intro h2 tk2 oa t2 u2 m2 led F2 N2 a2 a3 b2 b3 b4
      replace hx := hx.imp (a3 _) id
      replace hx0 := hx0.mono a3
      dsimp only
      k_steps
      all_goals (refine hret _ news _ _ ⟨rfl, ?_⟩ (by k_asm) (cb_drop (by assumption) a3))
      all_goals (first | exact hrn (by assumption) | exact hrs _ (by assumption) (by assumption))
section
open PySem.Builtin PySem.Builtin.ObjectAttr

/-- the fault as it is made: its class, its dict, its args -/
noncomputable abbrev excO (t : Addr) (d : Option Addr) : Obj := { cls := .ref 53, dict := d, data := .fields #[.ref t, .none, .none, .none, .bool false, .none] }
noncomputable abbrev excM : List Value := [.ref 40, .type "Exception", .type "BaseException", .type "object"]

variable {prog : Program} {w : World} {A : Around} {R : Result → Shared → Prop} {h : Heap} {g : Array GenState} {d : Drawn} {t : Nat} {os : OsState}
variable {nm q : Str} {N : Addr} {bs : List Value} {hdct : Bool} {sn : List Str} {sub : List Value} {ab : Bool} {col : Option Bool} {dd : Option Addr} {k0 k1 k2 k3 k5 : Option Value}

theorem exc_new {rest : List Value} (hC : h.get? 53 = some (excClassObj nm q 53 N bs excM hdct sn sub ab col dd k0 k1 k2 k3 k5 "Exception.__new__")) (hrest : rest.length ≤ sizeLine)
    (hq : R (.ok (.ret (.ref (h.objs.size + 1)))) ⟨(h.push { cls := .type "tuple", data := .seq rest.toArray }).push (excO h.objs.size none), g, d, t, os⟩) :
    codeAny (model prog w) A (.builtin "Exception.__new__" ⟨.ref 53 :: rest, []⟩) R ⟨h, g, d, t, os⟩ := by
  have F := PySem.F.excBase_Exception
  have hends := F.ends
  have hcB : (Value.ref 53 :: excM).contains (.type "Exception") = true := by decide +kernel
  have hcA : (Value.ref 53 :: excM).contains (.type "AttributeError") = false := by decide +kernel
  have hcN : (Value.ref 53 :: excM).contains (.type "NameError") = false := by decide +kernel
  refine codeAny_builtinAt F.entry ?_
  unfold Builtin.«BaseException.__new__»
  refine PySem.wpAt_bind ?_
  show PySem.wpAt _ _ _ (stack >>= _) _ _ _
  refine PySem.wpAt_bind (PySem.wpAt_stack fun p below => PySem.wpAt_of_wpAny ?_)
  wp_walk
  refine PySem.wpAt_of_wpAny ?_
  rw [F.owner]
  repeat (first
    | with_reducible refine wpAny_madeHere_exc F.canon hC ?_
    | with_reducible refine wpAny_loadPart_at hC ?_
    | (with_reducible refine wpAny_isSubtype_exc hC ?_; first | rw [hcB] | rw [hcA] | rw [hcN])
    | wp_step)
  show R _ _
  rw [Heap.size_push]
  exact hq

theorem exc_check_new {M : Model} {E : Value → Shared → Prop} {rest : List Value} {Q : Unit → Shared → Prop} (hC : h.get? 53 = some (excClassObj nm q 53 N bs excM hdct sn sub ab col dd k0 k1 k2 k3 k5 "Exception.__new__")) (hq : Q () ⟨h, g, d, t, os⟩) :
    wpAny M A (checkBuiltinCall "Exception.__new__" ⟨.ref 53 :: rest, []⟩) Q E ⟨h, g, d, t, os⟩ := by
  have F := PySem.F.excBase_Exception
  have hcont : (Value.ref 53 :: excM).contains (.type "Exception") = true := by decide +kernel
  have hstar := F.noStar
  simp only [checkBuiltinCall, F.newKind, F.newSplit, F.newRow]
  repeat (first | refine wpAny_loadPart_at hC ?_ | (refine wpAny_isSubtype_exc hC ?_; rw [hcont]) | refine wpAny_staticBase_exc hC ?_ | refine wpAny_madeBy_exc hC ?_ | simp only [bne_self_eq_false, Bool.false_eq_true, if_false] | wp_step)
  exact hq

theorem exc_cls {w : World} {h : Heap} {P : Prop} (X : (hd.heap_39 w.params).In h) (k : ∀ nm q N bs hdct sn sub ab col dd k0 k1 k2 k3 k5, h.get? 53 = some (excClassObj nm q 53 N bs excM hdct sn sub ab col dd k0 k1 k2 k3 k5 "Exception.__new__") → P) : P :=
  k _ _ _ _ _ _ _ _ _ _ _ _ _ _ _ (X _ _ (by k_is))
theorem exc_make {rest : List Value} (X : (hd.heap_39 w.params).In h) (hrest : rest.length ≤ sizeLine)
    (hq : codeAny (model prog w) (A.under (.builtin "type.__call__" ⟨.ref 53 :: rest, []⟩)) (.call (.ref 30) ⟨.ref (h.objs.size + 1) :: rest, []⟩) (InitBack (h.objs.size + 1) R)
      ⟨(h.push { cls := .type "tuple", data := .seq rest.toArray }).push (excO h.objs.size none), g, d, t, os⟩) :
    codeAny (model prog w) A (.call (.ref 53) ⟨rest, []⟩) R ⟨h, g, d, t, os⟩ := by
  refine exc_cls (X) ?_
  intro nm q N bs hdct sn sub ab col dd k0 k1 k2 k3 k5 hC
  have F := PySem.F.excBase_Exception
  have call : Looks (model prog w) h (specialOf (.ref 53) "__call__") (some (.builtin "type.__call__")) := looks_specialIn X (by k_is)
  have typ : Looks (model prog w) h (isInstance (.ref 53) (.type "type")) true := looks_instIn X (by k_is)
  have self : Looks (model prog w) h (isSubtype (.ref 53) (.ref 53)) true := looks_mroIn X (by k_is)
  have hi : Looks (model prog w) h (typeLookup (.ref 53) "__init__") (some (.ref 30)) := looks_findIn X (by k_is)
  have hb : ∀ x, Looks (model prog w) h (bindSpecial (.ref 30) x) (.ref 30, [x]) := fun x => bind_fn X x (by k_is)
  refine codeAny_of_tree ?_
  show wpAny _ _ (callAny (.ref 53) _) _ _ _
  refine nd_load hC ?_
  show wpAny _ _ (callAny.viaDunder (.ref 53) _) _ _ _
  unfold callAny.viaDunder
  refine wpAny_bind (call.at ?_)
  dsimp only
  rw [tc_bind]
  refine wpAny_bind (wpAny_pure (wpAny_bind (wpAny_pure ?_)))
  refine wpAny_pure (a := PySem.Fin.again (.call (.builtin "type.__call__") ⟨.ref 53 :: rest, []⟩)) (And.intro rfl ?_)
  refine codeAny_call_builtin_at (Code.quiet_builtin _ (by decide +kernel)) entry_typeCall (check_slot tc_kind tc_split typ (tc_args _ _ _) ?_)
  unfold Builtin.«type.__call__»
  repeat (first | with_reducible refine wpAny_loadPart_at hC ?_ | with_reducible refine wpAny_madeBy_exc hC ?_ | wp_step)
  refine codeAny_call_builtin_code (Code.quiet_builtin _ F.quiet) (exc_check_new hC ?_)
  refine exc_new hC hrest ?_
  have k : ∀ b o, h.get? b = some o → ((h.push { cls := .type "tuple", data := .seq rest.toArray }).push (excO h.objs.size none)).get? b = some o := fun b o e => Heap.get?_push_of_some _ (Heap.get?_push_of_some _ e)
  have hx : ((h.push { cls := .type "tuple", data := .seq rest.toArray }).push (excO h.objs.size none)).get? (h.objs.size + 1) = some (excO h.objs.size none) := by heap_get
  have t1 : Looks (model prog w) ((h.push { cls := .type "tuple", data := .seq rest.toArray }).push (excO h.objs.size none)) (typeOf (.ref (h.objs.size + 1))) (.ref 53) := (Looks.ld hx).andThen .now
  have s1 := self.keeps k
  have i1 := hi.keeps k
  have b1 := (hb (.ref (h.objs.size + 1))).keeps k
  dsimp only
  unfold isInstance callSpecial? specialOf
  repeat (first | with_reducible refine wpAny_call ?_ | lk)
  refine codeAny_mono hq fun r s' z => ?_
  rcases r with e | (v | _ | _ | _) <;> first | exact z | exact z.elim | skip
  obtain ⟨rfl, z⟩ := z
  exact wpAny_pure (wpAny_pure z)

theorem exc_check_init {M : Model} {E : Value → Shared → Prop} {e : Addr} {oe : Obj} {rest : List Value} {Q : Unit → Shared → Prop} (hC : h.get? 53 = some (excClassObj nm q 53 N bs excM hdct sn sub ab col dd k0 k1 k2 k3 k5 "Exception.__new__"))
    (he : h.get? e = some oe) (hcls : oe.cls = .ref 53) (hq : Q () ⟨h, g, d, t, os⟩) : wpAny M A (checkBuiltinCall "Exception.__init__" ⟨.ref e :: rest, []⟩) Q E ⟨h, g, d, t, os⟩ := by
  have F := PySem.F.excBase_Exception
  have hcB : (Value.ref 53 :: excM).contains (.type "Exception") = true := by decide +kernel
  have hshort := F.noStar
  simp only [checkBuiltinCall, F.initKind, F.initSplit, F.initRow]
  repeat (first | (with_reducible refine wpAny_loadPart_at he ?_; rw [hcls]) | with_reducible refine wpAny_loadPart_at hC ?_ | (with_reducible refine wpAny_isSubtype_exc hC ?_; rw [hcB]) | wp_step)
  refine wpAny_onRaise ?_
  rw [show ∀ (a b : String) (n : Nat), Bind.check ⟨.positional, "*", "Exception", .self, [⟨"args", .varPos, false⟩]⟩ a b n (List.map (fun x => x.fst) ({ pos := Value.ref e :: rest } : Args).kw) = pure () from
    fun a b n => check_star_args _ _ _ _ _ _]
  exact wpAny_pure hq

noncomputable abbrev tup1 (v : Value) : Obj := { cls := .type "tuple", data := .seq [v].toArray }
theorem exc_init {E : Value → Shared → Prop} {h₀ : Heap} {L e t0 : Addr} {m : Str → Option Value} {dx : Option Addr} {v : Value} {rest : Led} {s : Shared} {Q : Value → Shared → Prop} (F : Fr h₀ L s.heap m) (X : (hd.heap_39 w.params).In h₀) (N : News h₀ L s.heap ((e, excO t0 dx) :: rest)) (hne : ∀ p ∈ rest, p.1 ≠ e)
    (hQ : ∀ h' t', Fr h₀ L h' m → News h₀ L h' ((e, excO t' dx) :: (t', tup1 v) :: rest) → (∀ p ∈ (t', tup1 v) :: rest, p.1 ≠ e) → (∀ p ∈ (e, excO t' dx) :: rest, p.1 ≠ t') → Q .none { s with heap := h' }) :
    wpAny (model prog w) A (call (.builtin "Exception.__init__") [.ref e, v]) Q E s := by
  refine exc_cls (X.keeps F.keep) ?_
  intro nm q N' bs hdct sn sub ab col dd k0 k1 k2 k3 k5 hC
  have he := (N _ (List.Mem.head _)).1
  have G := PySem.F.excBase_Exception
  have FP := F.push (tup1 v)
  have NP := N.push F (tup1 v)
  have lt := Heap.lt_size he
  obtain ⟨U1, U2⟩ := news_upd (f := Obj.mapFields (·.setIfInBounds 0 (Value.ref s.heap.objs.size))) (pre := [(s.heap.objs.size, tup1 v)]) (o' := excO s.heap.objs.size dx) FP NP
    (fun p hp => by rw [List.mem_singleton.mp hp]; exact Nat.ne_of_gt lt) hne rfl rfl
  have z := hQ _ _ U1 (fun p hp => U2 p (by
    rcases List.mem_cons.mp hp with rfl | hp
    · exact .tail _ (.head _)
    · rcases List.mem_cons.mp hp with rfl | hp
      · exact .head _
      · exact .tail _ (.tail _ hp))) (fun p hp => by
    rcases List.mem_cons.mp hp with rfl | hp
    · exact Nat.ne_of_gt lt
    · exact hne p hp) (fun p hp => by
    rcases List.mem_cons.mp hp with rfl | hp
    · exact Nat.ne_of_lt lt
    · exact Nat.ne_of_lt (Heap.lt_size (N p (.tail _ hp)).1))
  obtain ⟨h, g, d, t, os⟩ := s
  refine wpAny_call (codeAny_call_builtin G.init.plain G.initEntry (exc_check_init hC he rfl ?_))
  dsimp only at he NP z
  have hep := Heap.get?_push_of_some (tup1 v) he
  wp_walk
  exact z
end
section
open PySem.Builtin PySem.Builtin.ObjectAttr
variable {prog : Program} {w : World} {A : Around} {R : Result → Shared → Prop}

noncomputable def DictNs (o : Obj) (ns : List Str) : Prop := ∀ (h : Heap) (d : Addr), h.get? d = some o → ∃ mA, h.Ns1 d mA ∧ Within mA ns
theorem DictNs.of {h : Heap} {d : Addr} {mA : Str → Option Value} {ns : List Str} {o : Obj} (x : h.Ns1 d mA) (e : h.get? d = some o) (hw : Within mA ns) : DictNs o ns := fun h' d' e' => by
  obtain ⟨o1, es, ep, e1, r⟩ := x
  rw [e] at e1
  cases e1
  exact ⟨mA, ⟨o, es, ep, e', r⟩, hw⟩

theorem exc_osa {s : Shared} {x : Addr} {ox : Obj} {od : Option Obj} {name : Str} {tk : Tok} {v : Value} (X : (hd.heap_39 w.params).In s.heap) (I : W.InstAt s.heap x ox 53 od) (ht : takerIn (hd.heap_39 w.params) 53 name = some none)
    (h : ∀ b, wpAny (model prog w) A.in1 (storeInOwnDict (.ref x) (.ref 53) (.str name tk) name v b)
      (fun fin s' => match fin with | .done f => R (.ok f) s' | .again c' => c'.quiet = true ∧ codeAny (model prog w) A c' R s') (fun e s' => R (.error e) s') s) :
    codeAny (model prog w) A (.call (.builtin "object.__setattr__") ⟨[.ref x, .str name tk, v], []⟩) R s := by
  have SF := PySem.F.store_Exception
  obtain ⟨cd, hc, hm⟩ : ∃ cd, clsIn (hd.heap_39 w.params) 53 = some cd ∧ cd.mro = .ref 53 :: excM := ⟨_, rfl, rfl⟩
  have sub : Looks (model prog w) s.heap (isInstance (.ref x) (.type "object")) true := I.type.andThen (looks_mroIn X (by k_is))
  refine codeAny_call_builtin SF.slot.plain SF.entry (@check_slot (model prog w) _ _ s "object.__setattr__" "object" "__setattr__" (.ref x) [.str name tk, v] [] _ SF.kind SF.split sub (SF.args (.ref x) (.str name tk) v) ?_)
  obtain ⟨attr, ha, hr⟩ := Option.bind_eq_some_iff.mp ht
  have L2 : Looks (model prog w) s.heap (mroOf (.ref 53)) cd.mro := (looks_clsIn X hc).andThen .now
  have L3 : Looks (model prog w) s.heap (storeTaker? attr) none := by
    cases attr with
    | none => exact .now
    | some a =>
      obtain ⟨b, hb, he⟩ := Option.map_eq_some_iff.mp hr
      cases b with
      | true => cases he
      | false => exact (looks_takesIn X hb).andThen .now
  rw [osa_eq, refuse_eq]
  refine wpAny_bind (wpAny_bind (I.type.here (wpAny_bind (L2.here ?_))))
  rw [hm, refuseLoop_ref, refuseLoop_ref, SF.passes]
  exact wpAny_pure (wpAny_bind (I.type.here (wpAny_bind ((looks_findIn X ha).here (wpAny_bind (L3.here (h _)))))))

theorem exc_set0 {E : Value → Shared → Prop} {h₀ : Heap} {L e t0 : Addr} {m : Str → Option Value} {name : Str} {v : Value} {rest : Led} {s : Shared} {Q : Unit → Shared → Prop} (F : Fr h₀ L s.heap m) (X : (hd.heap_39 w.params).In h₀) (N : News h₀ L s.heap ((e, excO t0 none) :: rest)) (hne : ∀ p ∈ rest, p.1 ≠ e)
    (ht : takerIn (hd.heap_39 w.params) 53 name = some none)
    (hQ : ∀ h' dx oD tk, Fr h₀ L h' m → News h₀ L h' ((e, excO t0 (some dx)) :: (dx, oD) :: rest) → (e : Nat) ≠ dx → (∀ p ∈ rest, p.1 ≠ dx) → DictNs oD [name] → Q () { s with heap := h', toks := tk }) :
    wpAny (model prog w) A (setAttr (.ref e) name v) Q E s := by
  have he := (N _ (List.Mem.head _)).1
  have X' := X.keeps F.keep
  have I : W.InstAt s.heap e (excO t0 none) 53 none := ⟨he, rfl, rfl, trivial⟩
  refine set_plain X' I (by k_is) (exc_osa (s := { s with toks := s.toks + 1 }) X' I ht fun b => ?_)
  obtain ⟨cd, hc, hm, hd'⟩ : ∃ cd, clsIn (hd.heap_39 w.params) 53 = some cd ∧ cd.mro = .ref 53 :: excM ∧ cd.hasDict = true := ⟨_, rfl, rfl, rfl⟩
  have FP := F.push { cls := .type "dict", data := .dict #[] }
  have NP := N.push F { cls := .type "dict", data := .dict #[] }
  have lt := Heap.lt_size he
  obtain ⟨U1, U2⟩ := news_upd (f := fun o => { o with dict := some s.heap.objs.size }) (pre := [(s.heap.objs.size, { cls := .type "dict", data := .dict #[] })]) (o' := excO t0 (some s.heap.objs.size)) FP NP
    (fun p hp => by rw [List.mem_singleton.mp hp]; exact Nat.ne_of_gt lt) hne rfl rfl
  unfold storeInOwnDict
  refine wpAny_bind (wpAny_pure (wpAny_bind ?_))
  show wpAny _ _ (instanceDict e true) _ _ _
  unfold instanceDict
  refine wpAny_bind (wpAny_loadPart he (wpAny_bind ((looks_clsIn X' hc) _ _ _ _ (fun _ _ q => q) ?_)))
  rw [hd']
  try dsimp only
  rw [if_neg (by decide)]
  try dsimp only
  rw [if_neg (by simp [typeHasDict])]
  refine wpAny_bind (wpAny_alloc' ?_)
  refine wpAny_bind (wpAny_update' (NP _ (.tail _ (.head _))).1 ?_)
  refine wpAny_pure ?_
  have hgd := (U2 _ (.head _)).1
  have hnd : ((s.heap.push { cls := .type "dict", data := .dict #[] }).update e fun o => { o with dict := some s.heap.objs.size }).Ns s.heap.objs.size (fun _ => none) :=
    ⟨_, #[], _, hgd, rfl, fun e he => absurd he (by simp), fun _ => rfl⟩
  show wpAny _ _ (storeInDict s.heap.objs.size (.str name _) name v) _ _ _
  unfold storeInDict newKeyGuard
  refine wpAny_bind (wpAny_pure (wpAny_bind (wpAny_nsSet1 (Heap.Ns1.of_empty hnd) fun h' hn' hs => ?_)))
  obtain ⟨oD, esD, epD, hoD, hdD, hcD⟩ := hn'.count (Within.cons name v Within.nil)
  refine wpAny_bind (wpAny_lookBehind hoD (by rw [hdD]; exact pastItsLine_dict (Nat.le_trans hcD (by rw [List.length_cons, List.length_nil, sizeLine_eq]; omega))) ?_)
  have NL := (U2 _ (.head _)).2
  have q := hQ h' s.heap.objs.size oD (s.toks + 1 + 1) ?_ ?_ (Nat.ne_of_lt lt) (fun p hp => Nat.ne_of_lt (Heap.lt_size (N p (.tail _ hp)).1)) (DictNs.of hn' hoD (Within.cons name v Within.nil))
  · wp_walk
    exact q
  · exact U1.change hs NL.1 NL.2
  · refine fun p hp => ?_
    rcases List.mem_cons.mp hp with rfl | hp
    · exact ⟨(hs.2 e (Nat.ne_of_lt lt)).trans (U2 _ (.tail _ (.head _))).1, (U2 _ (.tail _ (.head _))).2⟩
    · rcases List.mem_cons.mp hp with rfl | hp
      · exact ⟨hoD, NL⟩
      · exact ⟨(hs.2 p.1 (Nat.ne_of_lt (Heap.lt_size (N p (.tail _ hp)).1))).trans (U2 p (.tail _ (.tail _ hp))).1, (U2 p (.tail _ (.tail _ hp))).2⟩

theorem exc_set1 {E : Value → Shared → Prop} {h₀ : Heap} {L e t0 dx : Addr} {m : Str → Option Value} {name : Str} {v : Value} {oD : Obj} {ns : List Str} {rest : Led} {s : Shared} {Q : Unit → Shared → Prop} (F : Fr h₀ L s.heap m) (X : (hd.heap_39 w.params).In h₀)
    (N : News h₀ L s.heap ((e, excO t0 (some dx)) :: (dx, oD) :: rest)) (hed : (e : Nat) ≠ dx) (hne : ∀ p ∈ rest, p.1 ≠ dx) (hD : DictNs oD ns) (hl : ns.length ≤ 100)
    (ht : takerIn (hd.heap_39 w.params) 53 name = some none)
    (hQ : ∀ h' oD' tk, Fr h₀ L h' m → News h₀ L h' ((e, excO t0 (some dx)) :: (dx, oD') :: rest) → DictNs oD' (name :: ns) → Q () { s with heap := h', toks := tk }) :
    wpAny (model prog w) A (setAttr (.ref e) name v) Q E s := by
  have he := (N _ (List.Mem.head _)).1
  have hdx := N (dx, oD) (.tail _ (.head _))
  have X' := X.keeps F.keep
  have I : W.InstAt s.heap e (excO t0 (some dx)) 53 (some oD) := ⟨he, rfl, rfl, hdx.1⟩
  refine set_plain X' I (by k_is) (exc_osa (s := { s with toks := s.toks + 1 }) X' I ht fun b => ?_)
  obtain ⟨cd, hc, hm, hd'⟩ : ∃ cd, clsIn (hd.heap_39 w.params) 53 = some cd ∧ cd.mro = .ref 53 :: excM ∧ cd.hasDict = true := ⟨_, rfl, rfl, rfl⟩
  unfold storeInOwnDict
  refine wpAny_bind (wpAny_pure (wpAny_bind ?_))
  show wpAny _ _ (instanceDict e true) _ _ _
  unfold instanceDict
  refine wpAny_bind (wpAny_loadPart he (wpAny_bind ((looks_clsIn X' hc) _ _ _ _ (fun _ _ q => q) ?_)))
  rw [hd']
  try dsimp only
  rw [if_neg (by decide)]
  refine wpAny_pure ?_
  show wpAny _ _ (storeInDict dx (.str name _) name v) _ _ _
  unfold storeInDict newKeyGuard
  obtain ⟨mA, hns, hw⟩ := hD s.heap dx hdx.1
  refine wpAny_bind (wpAny_pure (wpAny_bind (wpAny_nsSet1 hns fun h' hn' hs => ?_)))
  obtain ⟨oE, esD, epD, hoD, hdD, hcD⟩ := hn'.count (Within.cons name v hw)
  refine wpAny_bind (wpAny_lookBehind hoD (by rw [hdD]; exact pastItsLine_dict (Nat.le_trans hcD (by rw [List.length_cons, sizeLine_eq]; omega))) ?_)
  have q := hQ h' oE (s.toks + 1 + 1) (F.change hs hdx.2.1 hdx.2.2) ?_ (DictNs.of hn' hoD (Within.cons name v hw))
  · wp_walk
    exact q
  · refine fun p hp => ?_
    rcases List.mem_cons.mp hp with rfl | hp
    · exact ⟨(hs.2 e hed).trans he, (N _ (.head _)).2⟩
    · rcases List.mem_cons.mp hp with rfl | hp
      · exact ⟨hoD, hdx.2⟩
      · exact ⟨(hs.2 p.1 (hne p hp)).trans (N p (.tail _ (.tail _ hp))).1, (N p (.tail _ (.tail _ hp))).2⟩
end
example : True := by
  k_with "getMethod type:Exception" => (k_here; k_dflt (refine' method_type ?kw_F ?kw_X ?kw_m (by decide +kernel) ?kw_e ?kw_h ?_; (case kw_F => k_asm); (case kw_X => k_asm); (case kw_m => kernel_rfl); (case kw_e => k_is); (case kw_h => k_handed)))
  trivial
example : True := by
  k_with "call builtin:Exception.__init__" => (k_here; k_dflt (refine' exc_init ?kw_F ?kw_X ?kw_N ?kw_n ?_; (case kw_F => k_asm); (case kw_X => k_asm); (case kw_N => k_asm); (case kw_n => assumption); intro h' t' F' N' n' m'; (try k_sweep)))
  trivial
example : True := by
  k_with "setAttr ref" => (k_here; k_dflt (first | (refine' exc_set1 ?kw_F ?kw_X ?kw_N ?kw_e ?kw_n ?kw_D ?kw_l ?kw_t ?_; (case kw_F => k_asm); (case kw_X => k_asm); (case kw_N => k_asm); (case kw_e => assumption); (case kw_n => assumption); (case kw_D => assumption); (case kw_l => exact Nat.le_of_ble_eq_true rfl); (case kw_t => k_is); intro h' o' tk' F' N' D') | (refine' exc_set0 ?kw_F ?kw_X ?kw_N ?kw_n ?kw_t ?_; (case kw_F => k_asm); (case kw_X => k_asm); (case kw_N => k_asm); (case kw_n => assumption); (case kw_t => k_is); intro h' d' o' tk' F' N' e' n' D')); (try k_sweep))
  trivial
/-- the fault and its args, newly made -/
noncomputable def NewFault (x : Str) (k : Tok) (news : Led) (r : Value) (news' : Led) : Prop :=
  ∃ e dx t, r = .ref e ∧ news' = (e, excO t (some dx)) :: (t, tup1 (.str x k)) :: news ∧ (∀ p ∈ news, p.1 ≠ e ∧ p.1 ≠ t) ∧ (e : Nat) ≠ t
theorem drop24 {h₀ h : Heap} {L : Addr} {a b c d : Addr × Obj} {news : Led} (N : News h₀ L h (a :: b :: c :: d :: news)) : News h₀ L h (a :: c :: news) := fun p hp => N p (by
  rcases List.mem_cons.mp hp with rfl | hp
  · exact .head _
  · rcases List.mem_cons.mp hp with rfl | hp
    · exact .tail _ (.tail _ (.head _))
    · exact .tail _ (.tail _ (.tail _ (.tail _ hp))))
theorem exc_call (w : World) (news : Led) (x : Str) (k : Tok) : Spec w (.ref 53) [.str x k] 8 news (NewFault x k news) := by
  unfold Spec; intro p loose mean mg mb dp un gd env outer A₀ base h₀ L m sh Q E hf hk B F X N T hd hu hret
  obtain ⟨hh, gg, dd, tt, os⟩ := sh
  have N1 := (N.push F { cls := .type "tuple", data := .seq [Value.str x k].toArray }).push (F.push _) (excO hh.objs.size none)
  rw [Heap.size_push] at N1
  have F1 := (F.push { cls := .type "tuple", data := .seq [Value.str x k].toArray }).push (excO hh.objs.size none)
  refine wpAny_call (exc_make (X.keeps F.keep) (by rw [sizeLine_eq]; exact Nat.le_of_ble_eq_true rfl) ?_)
  have hne : ∀ p ∈ (hh.objs.size, tup1 (.str x k)) :: news, p.1 ≠ hh.objs.size + 1 := by
    intro p hp
    rcases List.mem_cons.mp hp with rfl | hp
    · exact Nat.ne_of_lt (Nat.lt_succ_self _)
    · exact Nat.ne_of_lt (Nat.lt_succ_of_lt (Heap.lt_size (N p hp).1))
  generalize hh.objs.size = t0 at *
  generalize (hh.push { cls := .type "tuple", data := .seq [Value.str x k].toArray }).push (excO t0 none) = h1 at *
  k_dflt (refine' code_def ?k1 ?k2 ?k3 ?k4 ?k5 ?kA ?kF ?kK ?k6 ?k7 ?k8 ?k9 ?kB ?_ ?c2 ?c3 ?c4 ?c5; (case kA => exact rfl); (case kF => exact hf); (case kK => exact hk); (case k1 => k_asm); (case k2 => k_asm); (case k3 => k_asm); (case k4 => k_asm); (case k5 => k_asm); (case k6 => k_is); (case k7 => k_is); (case k8 => first | (dsimp only [AA]; omega) | (simp only [depth_under_make]; omega)); (case k9 => first | exact binds_K (by k_in) rfl (by k_is) rfl rfl rfl | exact BindsTo.of_eq rfl); (case c5 => decide); (case kB => exact locs rfl); (case c2 => exact rfl); (case c3 => exact rfl); (case c4 => exact rfl); k_whole; intro g' L' h' FG' F' N' B' X' T'; (try dsimp only); (try (with_reducible show wpAny _ _ _ _ _ _)); (try k_fold))
  k_steps
  rename News h₀ _ _ _ => NE
  rename ∀ p ∈ (_, tup1 _) :: (_, tup1 _) :: _, p.1 ≠ t0 + 1 => n1
  rename ∀ p ∈ (_, excO _ none) :: _, p.1 ≠ _ => n2
  exact hret _ _ _ _ ⟨_, _, _, rfl, rfl, fun p hp => ⟨n1 p (.tail _ (.tail _ hp)), n2 p (.tail _ (.tail _ hp))⟩, fun q => n1 _ (.head _) q.symm⟩ (by k_asm) (drop24 NE)

/-- what a raise hands on -/
noncomputable def RaisesO (w : World) (E : Value → Shared → Prop) (v : Value) (s₁ : Shared) : Prop := ∃ e t d, v = .ref e ∧ (hd.heap_39 w.params).In s₁.heap ∧ s₁.heap.get? e = some (excO t d) ∧ E (.ref e) s₁
theorem raisesO {w : World} {E : Value → Shared → Prop} {s : Shared} {h₀ : Heap} {L e t : Addr} {d : Option Addr} {m : Str → Option Value} {news : Led} (F : Fr h₀ L s.heap m) (X : (hd.heap_39 w.params).In h₀) (N : News h₀ L s.heap news) (hm : (e, excO t d) ∈ news) (h : E (.ref e) s) :
    RaisesO w E (.ref e) s := ⟨e, t, d, rfl, X.keeps F.keep, (N _ hm).1, h⟩

theorem Raise_O {w : World} {A : Around} {E : Value → Shared → Prop} {s : Shared} {env : Env} {x : Str} {np cpos pos : Pos} {args : List Expr} {Q : Flow → Shared → Prop} (hh : A.handled = none)
    (h : wpAny (model PRG w) A (eval (.Call (.Name x np) args [] cpos) env) (RaisesO w E) E s) :
    wpAny (model PRG w) A (exec (.Raise (some (.Call (.Name x np) args [] cpos)) none pos) env) Q E s := by
  rw [arm_exec_Raise]
  refine wpAny_bind (wpAny_standAt ?_)
  simp only [arm_evalOpt_some, show ∀ e, evalOpt none e = none from fun _ => rfl, Option.map]
  unfold raiseStmt
  refine wpAny_bind (wpAny_bind (wpAny_mono h (fun v s₁ h₁ => ?_) fun _ _ x => x))
  obtain ⟨e, t, d, rfl, X, he, hE⟩ := h₁
  refine exc_cls (X) ?_
  intro nm q N bs hdct sn sub ab col dd k0 k1 k2 k3 k5 hC
  have hcB : (Value.ref 53 :: excM).contains (.type "BaseException") = true := by decide +kernel
  obtain ⟨hp, g, d, tk, os⟩ := s₁
  refine wpAny_bind (wpAny_standAt (wpAny_pure ?_))
  repeat (first | with_reducible refine wpAny_loadPart_at he ?_ | with_reducible refine wpAny_loadPart_at hC ?_ | (with_reducible refine wpAny_isSubtype_exc hC ?_; rw [hcB]) | wp_step)
  exact wpAny_raiseNew_none hh hE
example : True := by
  k_with "exec Raise some none" => (k_here; k_dflt (refine' Raise_O ?kw_h ?_; (case kw_h => exact rfl)))
  trivial
example : True := by
  k_with "RaisesO" => (k_here; k_dflt (refine' raisesO ?kw_F ?kw_X ?kw_N ?kw_m ?_; (case kw_F => k_asm); (case kw_X => k_asm); (case kw_N => k_asm); (case kw_m => k_mem)))
  trivial
example : True := by
  k_with "call ref" => (k_here; (with_reducible show wpAny _ _ (PySem.call (Value.ref 53) _ _) _ _ _); k_dflt (refine' Spec.use (exc_call _ _ _ _ ) ?kw_hf ?kw_hk ?kw_B ?kw_F ?kw_X ?kw_N ?kw_T ?kw_hd ?kw_hu ?_; (case kw_hf => exact rfl); (case kw_hk => exact rfl); (case kw_B => k_asm); (case kw_F => k_asm); (case kw_X => k_asm); (case kw_N => k_asm); (case kw_T => k_asm); (case kw_hd => first | (dsimp only [AA, Around.deeper]; omega) | decide +kernel); (case kw_hu => first | (dsimp only [AA, Around.deeper]; omega) | decide +kernel); k_whole; intro r9 n9 h9 tk9 R9 F9 N9; obtain ⟨a9, d9, t9, e8, e9, n9x, n9y⟩ := R9; replace e8 := Eq.symm e8; replace e9 := Eq.symm e9; subst e8 e9; (try dsimp only); (try k_sweep); (try (with_reducible show wpAny _ _ _ _ _ _)); (try k_fold)))
  trivial
section
variable {w : World} {M : Model} {A : Around} {E : Value → Shared → Prop} {s' : Shared} {base g : Heap} {outer : List Env} {L a e t : Addr} {d : Option Addr} {m : Str → Option Value} {name : Str} {scope : Scope} {cd : Value} {Q : Unit → Shared → Prop} {news : Led} {v : Value}
theorem leave_raiseO (K : Below A base outer g) (F : Fr g L s'.heap m) (N : News g L s'.heap ((e, excO t d) :: (t, tup1 v) :: news)) (hne : ∀ p ∈ news, p.1 ≠ e ∧ p.1 ≠ t) (het : (e : Nat) ≠ t)
    (hQ : ∀ h', RaisedS base g outer e (.ref 53) t [v] news h' → RaisedK base outer e (.ref 53) t [v] news h' → g.UpToSlots h' → Q () { s' with heap := h' }) (hk : scope.kind = .function := by rfl) :
    wpAny M (A.deeper (envOf name scope L a cd)) (leaving (envOf name scope L a cd) (.ref e)) Q E s' := by
  have K' := K.push (name := name) (a := a) (cd := cd) F hk
  have hE := N _ (.head _)
  have hT := N _ (.tail _ (.head _))
  let fs := e :: t :: (envOf name scope L a cd :: outer).filterMap (·.frame)
  have hin : ∀ env ∈ (envOf name scope L a cd :: outer), ∀ b, env.frame = some b → b ∈ fs := fun env he b hb => .tail _ (.tail _ (List.mem_filterMap.mpr ⟨env, he, hb⟩))
  have inF : ∀ b, b ∈ fs → b = e ∨ b = t ∨ b ∈ (envOf name scope L a cd :: outer).filterMap (·.frame) := fun b hb => by
    rcases List.mem_cons.mp hb with rfl | hb
    · exact .inl rfl
    · rcases List.mem_cons.mp hb with rfl | hb
      · exact .inr (.inl rfl)
      · exact .inr (.inr hb)
  have st : base.StaysIn (hideAll s'.heap fs) := fun b o q => hideAll_get _ (K'.stays b o q) fun hm => by
    rcases inF b hm with z | z | z
    · have := fresh_of_stays K.stays hE.2.2; rw [z, this] at q; cases q
    · have := fresh_of_stays K.stays hT.2.2; rw [z, this] at q; cases q
    · rw [(K'.frames.mem z).1] at q; cases q
  have sg : ∀ b o, g.get? b = some o → b ∉ outer.filterMap (·.frame) → (hideAll s'.heap fs).get? b = some o := fun b o q nm => hideAll_get _ (F.keep b o q) fun hm => by
    rcases inF b hm with z | z | z
    · rw [z, hE.2.2] at q; cases q
    · rw [z, hT.2.2] at q; cases q
    · rcases kts_mem z with z | z
      · rw [z, kts_self F] at q; cases q
      · exact nm z
  have hl : ∀ q ∈ news, (hideAll s'.heap fs).get? q.1 = some q.2 ∧ g.get? q.1 = none ∧ base.get? q.1 = none := fun q hq => by
    have hq' := N q (.tail _ (.tail _ hq))
    refine ⟨hideAll_get _ hq'.1 fun hm => ?_, hq'.2.2, fresh_of_stays K.stays hq'.2.2⟩
    rcases inF _ hm with z | z | z
    · exact (hne q hq).1 z
    · exact (hne q hq).2 z
    · obtain ⟨env, he, hf⟩ := List.mem_filterMap.mp z
      rcases List.mem_cons.mp he with rfl | he
      · exact hq'.2.1 (Option.some.inj hf).symm
      · obtain ⟨o, ho, _⟩ := (K.frames.mem (List.mem_filterMap.mpr ⟨env, he, hf⟩)).2
        rw [hq'.2.2] at ho; cases ho
  have he0 : (hideAll s'.heap fs).get? e = none := hideAll_none _ (.head _)
  have ht0 : (hideAll s'.heap fs).get? t = none := hideAll_none _ (.tail _ (.head _))
  refine wpAny_leaving_firstW (base := hideAll s'.heap fs) (a0 := .ref t) K'.stack (funFrames_hide K'.frames hin) rfl hE.1 (fun b o q => of_hideAll _ q) he0 rfl rfl rfl fun h' hL => ?_
  obtain ⟨x1, ⟨_, _, x2⟩, x3, x4⟩ := hL
  have R : RaisedS base g outer e (.ref 53) t [v] news h' := ⟨⟨_, st, sg, hl, ⟨x1, he0, x2, x3⟩, ht0⟩, Heap.TupAt.of_slots ⟨_, _, hT.1, rfl, rfl⟩ x4⟩
  exact hQ h' R R.toK ((Heap.UpToSlots.of_keeps F.keep).trans x4)
end
example : True := by
  k_with "leaving ref" => (k_here; k_dflt (refine' leave_raiseO ?kw_K ?kw_F ?kw_N ?kw_n ?kw_e ?_; (case kw_K => assumption); (case kw_F => assumption); (case kw_N => assumption); (case kw_n => assumption); (case kw_e => assumption)); intro h' S' R' U'; (try dsimp only at S' R' U' ⊢))
  trivial
noncomputable abbrev frs (l : List Env) : List Addr := l.filterMap (·.frame)
/-- what stands around a call: its frame's ground and what lies under it -/
structure Gnd (w : World) (p : Program) (loose : List Str) (mean : ExcName → Option Value) (mg mb : Str → Option Value) (A₀ : Around) (base : Heap) (outer : List Env) (h₀ : Heap) : Prop where
  B : Below A₀ base outer h₀
  X : (hd.heap_39 w.params).In h₀
  T : Top p loose mean mg mb h₀
  XB : (hd.heap_39 w.params).In base
  TB : Top p loose mean mg mb base
  D : KtsDicts (frs outer) h₀

/-- a call that may catch within: the ground of the caller's frame may turn (its elder frames' slots) -/
noncomputable def SpecT (w : World) (fv : Value) (vs : List Value) (cost : Nat) (news : Led) (R : Value → Led → Prop) : Prop :=
  ∀ (p : Program) (loose : List Str) (mean : ExcName → Option Value) (mg mb : Str → Option Value) (dp un : Nat) (gd : Option (List Code)) (env : Env) (outer : List Env) (A₀ : Around) (base h₀ : Heap) (L : Addr) (m : Str → Option Value) (s : Shared) (Q E : Value → Shared → Prop),
    env.frame = some L → env.scope.kind = .function → Gnd w p loose mean mg mb A₀ base outer h₀ →
    Fr h₀ L s.heap m → News h₀ L s.heap news → dp + cost < recursionLimit → un + 8 * cost < cLine →
    (∀ r news' h' h₀' tk', R r news' → KtsTurn (frs outer) h₀ h₀' → Gnd w p loose mean mg mb A₀ base outer h₀' → Fr h₀' L h' m → News h₀' L h' news' → Q r { s with heap := h', toks := tk' }) →
    wpAny (model PRG w) (AA dp un gd env outer) (call fv vs) Q E s

theorem SpecT.use {w : World} {fv : Value} {vs : List Value} {cost : Nat} {news : Led} {R : Value → Led → Prop}
    {p : Program} {loose : List Str} {mean : ExcName → Option Value} {mg mb : Str → Option Value} {dp un : Nat} {gd : Option (List Code)} {env : Env} {outer : List Env} {A₀ : Around} {base h₀ : Heap} {L : Addr} {m : Str → Option Value} {s : Shared} {Q E : Value → Shared → Prop}
    (S : SpecT w fv vs cost news R) (hf : env.frame = some L) (hk : env.scope.kind = .function) (G : Gnd w p loose mean mg mb A₀ base outer h₀)
    (F : Fr h₀ L s.heap m) (N : News h₀ L s.heap news) (hd : dp + cost < recursionLimit) (hu : un + 8 * cost < cLine)
    (ret : ∀ r news' h' h₀' tk', R r news' → KtsTurn (frs outer) h₀ h₀' → Gnd w p loose mean mg mb A₀ base outer h₀' → Fr h₀' L h' m → News h₀' L h' news' → Q r { s with heap := h', toks := tk' }) :
    wpAny (model PRG w) (AA dp un gd env outer) (call fv vs) Q E s := S _ _ _ _ _ _ _ _ _ _ _ _ _ _ _ _ _ _ hf hk G F N hd hu ret

/-- a plain contract is one of these too -/
theorem Spec.toT {w : World} {fv : Value} {vs : List Value} {cost : Nat} {news : Led} {R : Value → Led → Prop} (S : Spec w fv vs cost news R) : SpecT w fv vs cost news R := by
  unfold SpecT
  intro p loose mean mg mb dp un gd env outer A₀ base h₀ L m s Q E hf hk G F N hd hu hret
  exact S.use hf hk G.B F G.X N G.T hd hu fun r news' h' tk' hR F' N' => hret r news' h' h₀ tk' hR KtsTurn.refl G F' N'

noncomputable def LeaveT (w : World) (p : Program) (loose : List Str) (mean : ExcName → Option Value) (mg mb : Str → Option Value) (A₀ : Around) (base : Heap) (env : Env) (outer : List Env) (h₀ : Heap) (L : Addr) (m : Str → Option Value) (g : Heap) (R : Result → Shared → Prop) (v : Value) (s' : Shared) : Prop :=
  ∃ g' L' m' news', KtsTurn (frs (env :: outer)) g g' ∧ Fr g' L' s'.heap m' ∧ News g' L' s'.heap news' ∧
    ∀ h₀', KtsTurn (frs outer) h₀ h₀' → Fr h₀' L s'.heap m → News h₀' L s'.heap news' → Gnd w p loose mean mg mb A₀ base outer h₀' → R (.ok (.ret v)) s'
theorem leaveT_ {w : World} {p : Program} {loose : List Str} {mean : ExcName → Option Value} {mg mb : Str → Option Value} {A₀ : Around} {base : Heap} {env : Env} {outer : List Env} {h₀ : Heap} {L L' : Addr} {m m' : Str → Option Value} {g g' : Heap} {R : Result → Shared → Prop} {v : Value} {s' : Shared} {news' : Led}
    (F : Fr g' L' s'.heap m') (N : News g' L' s'.heap news') (T : KtsTurn (frs (env :: outer)) g g')
    (k : ∀ h₀', KtsTurn (frs outer) h₀ h₀' → Fr h₀' L s'.heap m → News h₀' L s'.heap news' → Gnd w p loose mean mg mb A₀ base outer h₀' → R (.ok (.ret v)) s') :
    LeaveT w p loose mean mg mb A₀ base env outer h₀ L m g R v s' := ⟨g', L', m', news', T, F, N, k⟩

section
variable {w : World} {A₀ A : Around} {s : Shared} {base h₀ : Heap} {outer : List Env} {L : Addr} {m : Str → Option Value} {env : Env} {news : Led} {p : Program} {loose : List Str} {mean : ExcName → Option Value} {mg mb : Str → Option Value}
  {R : Result → Shared → Prop} {name qual : Str} {params : Arguments} {body : List Stmt} {scope : Scope} {cl : List (Str × Addr)} {dV kV doc pm cdv ct oc : Value} {an od : Option Addr} {osl : Array (Option Value)} {f : Addr} {args : Args} {binds : List (Str × Value)}

theorem frs_mem {b : Addr} (hf : env.frame = some L) (hb : b ∈ frs (env :: outer)) : b = L ∨ b ∈ frs outer := by
  obtain ⟨e, he, hfe⟩ := List.mem_filterMap.mp hb
  rcases List.mem_cons.mp he with rfl | he
  · exact .inl (Option.some.inj (hfe.symm.trans hf))
  · exact .inr (List.mem_filterMap.mpr ⟨e, he, hfe⟩)

/-- the way back out of a frame whose ground has turned -/
theorem turn_back (G : Gnd w p loose mean mg mb A₀ base outer h₀) (F : Fr h₀ L s.heap m) (N : News h₀ L s.heap news) (hA : A.frames = some (env :: outer)) (hf : env.frame = some L) (hke : env.scope.kind = .function) :
    Gnd w p loose mean mg mb A base (env :: outer) (hideAll s.heap (news.map (·.1))) ∧ Fr h₀ L (hideAll s.heap (news.map (·.1))) m ∧
      ∀ v s', LeaveT w p loose mean mg mb A₀ base env outer h₀ L m (hideAll s.heap (news.map (·.1))) R v s' → R (.ok (.ret v)) s' := by
  obtain ⟨FG, BG, st, _⟩ := groundX (R := R) G.B F N hA hf hke
  obtain ⟨oL, es, ep, hLg, hLd, hLk, hLf⟩ := FG.ns
  have nL₀ : h₀.get? L = none := kts_self F
  refine ⟨⟨BG, G.X.keeps st, G.T.keeps st, G.XB, G.TB, fun b hb => ?_⟩, FG, fun v s' hl => ?_⟩
  · rcases frs_mem hf hb with rfl | hb
    · exact ⟨oL, es, ep, hLg, hLd⟩
    · obtain ⟨o, es', n', ho', hd'⟩ := G.D b hb
      exact ⟨o, es', n', st b o ho', hd'⟩
  · obtain ⟨g', L', m', news', T', F', N', k⟩ := hl
    obtain ⟨sl, hs⟩ := T'.up hLg
    obtain ⟨T₁, S₁⟩ := kts_turn_at (h := s'.heap) (fs := frs outer) (g := h₀)
      (fun b hb => by
        obtain ⟨_, o, ho', _⟩ := G.B.frames.mem hb
        exact ⟨o, ho'⟩)
      (fun b o e nmem => F'.keep b o (T'.other b o (st b o e) (fun q => by
        rcases frs_mem hf q with z | z
        · rw [z, nL₀] at e
          cases e
        · exact nmem z)))
      (fun b o e hm => by
        obtain ⟨sl', hs'⟩ := T'.up (st b o e)
        exact ⟨sl', F'.keep _ _ hs'⟩)
    have B₃ : Below A₀ base outer (ktsHeap s'.heap (frs outer) h₀) := ⟨G.B.stack, fun b o e => T₁.other b o (G.B.stays b o e) (fun hm => by
      rw [(G.B.frames.mem hm).1] at e
      cases e), G.B.frames.of_keeps fun b o e _ => by
      obtain ⟨sl', hs'⟩ := T₁.up e
      exact ⟨_, hs', rfl⟩⟩
    refine k _ T₁ ⟨⟨_, es, ep, F'.keep _ _ hs, hLd, hLk, hLf⟩, S₁, by rw [T₁.size]; exact F.above⟩ (fun q hq => ⟨(N' q hq).1, fun z => ?_, ?_⟩) ⟨B₃, G.XB.keeps B₃.stays, G.TB.keeps B₃.stays, G.XB, G.TB, G.D.turn T₁⟩
    · have := (N' q hq).2.2; rw [z, hs] at this; cases this
    · refine T₁.none_ _ ?_
      cases z : h₀.get? q.1 with
      | none => rfl
      | some o =>
        obtain ⟨sl', hs'⟩ := T'.up (st _ _ z)
        have := (N' q hq).2.2
        rw [hs'] at this
        cases this

theorem callT (G : Gnd w p loose mean mg mb A₀ base outer h₀) (F : Fr h₀ L s.heap m) (N : News h₀ L s.heap news) (hA : A.frames = some (env :: outer)) (hf : env.frame = some L) (hke : env.scope.kind = .function)
    (ho : (hd.heap_39 w.params).lookup f = some ⟨oc, od, .func (fnOf name qual params body scope dV kV doc pm an cdv ct), osl⟩) (hcd : codeIn (hd.heap_39 w.params) cdv qual = true) (hroom : A.depth < recursionLimit)
    (hbind : BindsTo s (fnOf name qual params body scope dV kV doc pm an cdv ct) args binds) (hloc : ∀ y ∈ binds, scope.names.lookup y.1 = some .local)
    (h : ∀ g L' h₁, Fr h₀ L g m → Fr g L' h₁ (fun y => binds.reverse.lookup y) → News g L' h₁ news → Gnd w p loose mean mg mb A base (env :: outer) g →
      wpAny (model PRG w) (A.deeper (envOf qual scope L' f cdv)) (execs body (envOf qual scope L' f cdv))
        (fun fl s' => LeaveT w p loose mean mg mb A₀ base env outer h₀ L m g R (match fl with | .ret v => v | _ => .none) s')
        (fun e s' => wpAny (model PRG w) (A.deeper (envOf qual scope L' f cdv)) (leaving (envOf qual scope L' f cdv) e) (fun _ s'' => R (.error e) s'') (fun e' s'' => R (.error e') s'') s')
        { s with heap := h₁, toks := s.toks + binds.length })
    (hco : scope.isCoroutine = false) (hgen : scope.isGenerator = false) (hk : scope.kind = .function)
    (hcell : ∀ x ∈ scope.names, x.2 ≠ .cell) : codeAny (model PRG w) A (.call (.ref f) args) R s := by
  have X := G.X.keeps F.keep
  obtain ⟨GG, FG, lv⟩ := turn_back (R := R) G F N hA hf hke
  refine codeAny_call_def (fd := fnOf name qual params body scope dV kV doc pm an cdv ct) (body := body) (binds := binds) hroom (X _ _ ho) rfl (G.T.nolimit.keeps F.keep) (codeRec_of X hcd) rfl hbind hcell hloc (fun h₁ hns hk₁ => ?_) hco hgen hk
  exact wpAny_mono (h _ s.heap.objs.size h₁ FG ⟨hns, fun b o e => hk₁ b o (of_hideAll _ e), Nat.le_of_eq (hideAll_size _ _)⟩
    (fun p hp => ⟨hk₁ _ _ (N p hp).1, Nat.ne_of_lt (Heap.lt_size (N p hp).1), hideAll_none _ (List.mem_map_of_mem hp)⟩) GG) (fun fl s' hl => lv _ _ hl) fun _ _ y => y

theorem callTC (G : Gnd w p loose mean mg mb A₀ base outer h₀) (F : Fr h₀ L s.heap m) (N : News h₀ L s.heap news) (hA : A.frames = some (env :: outer)) (hf : env.frame = some L) (hke : env.scope.kind = .function)
    (ho : (hd.heap_39 w.params).lookup f = some ⟨oc, od, .func (fnOf name qual params body scope dV kV doc pm an cdv ct), osl⟩) (hcd : codeIn (hd.heap_39 w.params) cdv qual = true) (hroom : A.depth < recursionLimit)
    (hbind : BindsTo s (fnOf name qual params body scope dV kV doc pm an cdv ct) args binds) (hkind : (binds.all fun y => scope.names.lookup y.1 == some .local || scope.names.lookup y.1 == some .cell) = true)
    (hnd : ((cellsFrom 0 scope.names []).map (·.1)).Nodup)
    (h : ∀ g L' h₁ tk cells, Fr h₀ L g m → Fr g L' h₁ (bindL (envOfC qual scope L' f cdv).kindOf binds fun _ => none) → News g L' h₁ (cells ++ news) →
      CellsAre (bindC (envOfC qual scope L' f cdv).kindOf binds fun _ => none) (cellsFrom (L' + 1) scope.names []) cells → Gnd w p loose mean mg mb A base (env :: outer) g → (∀ p ∈ news, p.1 < L') →
      wpAny (model PRG w) (A.deeper (envOfC qual scope L' f cdv)) (execs body (envOfC qual scope L' f cdv))
        (fun fl s' => LeaveT w p loose mean mg mb A₀ base env outer h₀ L m g R (match fl with | .ret v => v | _ => .none) s')
        (fun e s' => wpAny (model PRG w) (A.deeper (envOfC qual scope L' f cdv)) (leaving (envOfC qual scope L' f cdv) e) (fun _ s'' => R (.error e) s'') (fun e' s'' => R (.error e') s'') s')
        { s with heap := h₁, toks := tk })
    (hco : scope.isCoroutine = false) (hgen : scope.isGenerator = false) (hk : scope.kind = .function) : codeAny (model PRG w) A (.call (.ref f) args) R s := by
  have X := G.X.keeps F.keep
  obtain ⟨GG, FG, lv⟩ := turn_back (R := R) G F N hA hf hke
  refine codeAny_call_function hroom (X _ _ ho) rfl hco hgen rfl (codeRec_of X hcd) (hbind _ _ _ _ ?_)
  refine wpAny_newFunctionEnv_cells hk (kindsX hkind _) fun env' he s' x => ?_
  subst he
  refine ⟨(G.T.nolimit.keeps F.keep).keeps x.toInCall.keep, codeAny_func ?_⟩
  obtain ⟨h₁, tk, rfl, _⟩ := x.done
  have hk₁ := x.toInCall.keep
  obtain ⟨cells, NC, Y⟩ := Cl.news (h₀ := s.heap) (Nat.le_refl _) fun n c hm => ⟨x.cell n c (lookup_of_mem_nodup (cellsFrom_names scope.names 0 (s.heap.objs.size + 1) [] [] rfl ▸ hnd) hm), x.above n c hm⟩
  refine wpAny_mono (h _ s.heap.objs.size h₁ tk cells FG ⟨x.toInCall.ns, fun b o e => hk₁ b o (of_hideAll _ e), Nat.le_of_eq (hideAll_size _ _)⟩ (fun q hp => ?_) Y GG (fun p hp => Heap.lt_size (N p hp).1)) (fun fl s' hl => lv _ _ hl) fun _ _ y => y
  rcases List.mem_append.mp hp with hp | hp
  · refine ⟨(NC q hp).1, (NC q hp).2.1, ?_⟩
    cases z : (hideAll s.heap (news.map (·.1))).get? q.1 with
    | none => rfl
    | some o => have := of_hideAll _ z; rw [(NC q hp).2.2] at this; cases this
  · exact ⟨hk₁ _ _ (N q hp).1, Nat.ne_of_lt (Heap.lt_size (N q hp).1), hideAll_none _ (List.mem_map_of_mem hp)⟩
end
noncomputable abbrev tupR (qa : Addr) (r : Bool) (way : Way) (k : Tok) : Obj := { cls := .type "tuple", data := .seq [Value.ref qa, Value.bool r, Value.str way.str k].toArray }
/-- what a row's putting makes: nothing at a division by 0, else what keep makes of what is told -/
noncomputable def PutR (way : Way) (a wo : Int × Int) (news : Led) (K : Int × Int → Value → Led → Prop) (v : Value) (news' : Led) : Prop :=
  (way = .div ∧ wo.1 = 0 → v = .bool true ∧ news' = news) ∧ (¬ (way = .div ∧ wo.1 = 0) → K (wayP way a wo) v news')
example : True := by
  k_with "LeaveT" => (k_dflt (refine' leaveT_ ?kw_F ?kw_N ?kw_T ?_; (case kw_F => k_asm); (case kw_N => k_asm); (case kw_T => first | assumption | exact KtsTurn.refl); k_whole); intro kh kT kF kN kG; (have kX := kFor kF kG.X); (try dsimp only [InitBack, CmpBack, LenBack, StrBack, BoolBack]); (try dsimp only))
  trivial
noncomputable def IsFn (o : Obj) : Prop := ∃ oc od fd sl, o = (⟨oc, od, .func fd, sl⟩ : Obj)
theorem fnAt_of {h₀ h : Heap} {L q : Addr} {o : Obj} {news : Led} (N : News h₀ L h news) (hm : (q, o) ∈ news) (hf : IsFn o) : FnAt q h := by
  obtain ⟨oc, od, fd, sl, rfl⟩ := hf
  exact ⟨oc, od, fd, sl, (N _ hm).1⟩
example : True := by
  k_with "FnAt" => (k_dflt (exact fnAt_of (by k_asm) (by k_mem) (by assumption)))
  trivial
example : True := by
  k_with "callWith ref" => (k_here; k_dflt (refine' callWith_F ?kw_k1 ?_; (case kw_k1 => exact fnAt_of (by k_asm) (by k_mem) (by assumption)); k_whole))
  trivial
theorem put_row_ok (w : World) (news : Led) (ra qa wa na ka : Addr) (r : Bool) (way : Way) (a wo : Int × Int) (k t1 u1 : Tok) (K : Int × Int → Value → Led → Prop) (no ko : Obj)
    (hrow : (ra, tupR qa r way k) ∈ news) (hw : (wa, tup2 wo.1 wo.2 t1 u1) ∈ news) (oa : PairOk a) (ow : PairOk wo) (hs : a.2 + wo.2 ≤ 30)
    (hn : (na, no) ∈ news) (hk : (ka, ko) ∈ news) (hnf : IsFn no) (hkf : IsFn ko)
    (hnum : way ≠ .put → Spec w (.ref na) [.ref qa] 10 news (NewPair a news))
    (hkeep : ∀ (x : Int × Int) (ta : Addr) (t u : Tok) (led : Led), (ta, tup2 x.1 x.2 t u) ∈ led → (∀ q ∈ news, q ∈ led) → x = wayP way a wo → Spec w (.ref ka) [.ref qa, .ref ta, .bool r] 10 led (K x)) (hz : way = .div → wo.1 ≠ 0) :
    SpecT w (.ref 134) [.ref ra, .ref wa, .ref na, .ref ka] 30 news (PutR way a wo news K) := by
  have hn' := hn; clear hn
  have hk' := hk; clear hk
  cases way with
  | put =>
    dsimp only [tupR, Way.str] at hrow
    unfold SpecT; intro p loose mean mg mb dp un gd env outer A₀ base h₀ L m sh Q E hf hk G F N hd hu hret
    refine wpAny_call ?_
    k_dflt (refine' callT ?G ?F ?N ?kA ?kF ?kK ?k6 ?k7 ?k8 ?k9 ?kB ?_ ?c2 ?c3 ?c4 ?c5; (case kA => exact rfl); (case kF => exact hf); (case kK => exact hk); (case G => k_asm); (case F => k_asm); (case N => k_asm); (case k6 => k_is); (case k7 => k_is); (case k8 => (dsimp only [AA]; omega)); (case k9 => first | exact binds_K (by k_in) rfl (by k_is) rfl rfl rfl | exact BindsTo.of_eq rfl); (case c5 => decide); (case kB => exact locs rfl); (case c2 => exact rfl); (case c3 => exact rfl); (case c4 => exact rfl); k_whole; intro g' L' h' FG' F' N' G'; (have B' := G'.B); (have X' := G'.X); (have T' := G'.T); (have XB' := G'.XB); (have TB' := G'.TB); (have D' := G'.D); (try dsimp only); (try (with_reducible show wpAny _ _ _ _ _ _)); (try k_fold))
    skip
    (k_with "call ref" => (k_dflt (refine' Spec.use (hkeep _ _ _ _ _ ?s1 ?s2 ?s3) ?hf ?hk ?B ?F ?X ?N ?T ?hd ?hu ?_; (case hf => exact rfl); (case hk => exact rfl); (case B => k_asm); (case F => k_asm); (case X => k_asm); (case N => k_asm); (case T => k_asm); (case s1 => k_mem); (case s2 => (intro q hq; repeat (first | exact hq | apply List.mem_cons_of_mem))); (case s3 => exact rfl); (case hd => first | (dsimp only [AA, Around.deeper]; omega) | decide +kernel); (case hu => first | (dsimp only [AA, Around.deeper]; omega) | decide +kernel); k_whole; intro r9 n9 h9 tk9 R9 F9 N9; obtain hK9 := R9; skip; (try dsimp only); (try k_sweep); (try (with_reducible show wpAny _ _ _ _ _ _)); (try k_fold))))
    k_steps
    all_goals (exact hret r9 n9 h9 _ tk9 ⟨(fun h => nomatch h.1), fun _ => R9⟩ (by assumption) (by assumption) (by assumption) (by assumption))
  | add =>
    dsimp only [tupR, Way.str] at hrow
    unfold SpecT; intro p loose mean mg mb dp un gd env outer A₀ base h₀ L m sh Q E hf hk G F N hd hu hret
    refine wpAny_call ?_
    k_dflt (refine' callT ?G ?F ?N ?kA ?kF ?kK ?k6 ?k7 ?k8 ?k9 ?kB ?_ ?c2 ?c3 ?c4 ?c5; (case kA => exact rfl); (case kF => exact hf); (case kK => exact hk); (case G => k_asm); (case F => k_asm); (case N => k_asm); (case k6 => k_is); (case k7 => k_is); (case k8 => (dsimp only [AA]; omega)); (case k9 => first | exact binds_K (by k_in) rfl (by k_is) rfl rfl rfl | exact BindsTo.of_eq rfl); (case c5 => decide); (case kB => exact locs rfl); (case c2 => exact rfl); (case c3 => exact rfl); (case c4 => exact rfl); k_whole; intro g' L' h' FG' F' N' G'; (have B' := G'.B); (have X' := G'.X); (have T' := G'.T); (have XB' := G'.XB); (have TB' := G'.TB); (have D' := G'.D); (try dsimp only); (try (with_reducible show wpAny _ _ _ _ _ _)); (try k_fold))
    skip
    (k_with "call ref" => (k_dflt (refine' Spec.use (hkeep _ _ _ _ _ ?s1 ?s2 ?s3) ?hf ?hk ?B ?F ?X ?N ?T ?hd ?hu ?_; (case hf => exact rfl); (case hk => exact rfl); (case B => k_asm); (case F => k_asm); (case X => k_asm); (case N => k_asm); (case T => k_asm); (case s1 => k_mem); (case s2 => (intro q hq; repeat (first | exact hq | apply List.mem_cons_of_mem))); (case s3 => exact rfl); (case hd => first | (dsimp only [AA, Around.deeper]; omega) | decide +kernel); (case hu => first | (dsimp only [AA, Around.deeper]; omega) | decide +kernel); k_whole; intro r9 n9 h9 tk9 R9 F9 N9; obtain hK9 := R9; skip; (try dsimp only); (try k_sweep); (try (with_reducible show wpAny _ _ _ _ _ _)); (try k_fold))))
    (k_with "call ref" => (k_dflt (refine' Spec.use (hnum (by nofun)) ?hf ?hk ?B ?F ?X ?N ?T ?hd ?hu ?_; (case hf => exact rfl); (case hk => exact rfl); (case B => k_asm); (case F => k_asm); (case X => k_asm); (case N => k_asm); (case T => k_asm); (case hd => first | (dsimp only [AA, Around.deeper]; omega) | decide +kernel); (case hu => first | (dsimp only [AA, Around.deeper]; omega) | decide +kernel); k_whole; intro r9 n9 h9 tk9 R9 F9 N9; obtain ⟨a9, t9, u9, e8, e9⟩ := R9; replace e8 := Eq.symm e8; replace e9 := Eq.symm e9; subst e8 e9; (try dsimp only); (try k_sweep); (try (with_reducible show wpAny _ _ _ _ _ _)); (try k_fold))))
    k_steps
    all_goals (exact hret r9 n9 h9 _ tk9 ⟨(fun h => nomatch h.1), fun _ => R9⟩ (by assumption) (by assumption) (by assumption) (by assumption))
  | sub =>
    dsimp only [tupR, Way.str] at hrow
    unfold SpecT; intro p loose mean mg mb dp un gd env outer A₀ base h₀ L m sh Q E hf hk G F N hd hu hret
    refine wpAny_call ?_
    k_dflt (refine' callT ?G ?F ?N ?kA ?kF ?kK ?k6 ?k7 ?k8 ?k9 ?kB ?_ ?c2 ?c3 ?c4 ?c5; (case kA => exact rfl); (case kF => exact hf); (case kK => exact hk); (case G => k_asm); (case F => k_asm); (case N => k_asm); (case k6 => k_is); (case k7 => k_is); (case k8 => (dsimp only [AA]; omega)); (case k9 => first | exact binds_K (by k_in) rfl (by k_is) rfl rfl rfl | exact BindsTo.of_eq rfl); (case c5 => decide); (case kB => exact locs rfl); (case c2 => exact rfl); (case c3 => exact rfl); (case c4 => exact rfl); k_whole; intro g' L' h' FG' F' N' G'; (have B' := G'.B); (have X' := G'.X); (have T' := G'.T); (have XB' := G'.XB); (have TB' := G'.TB); (have D' := G'.D); (try dsimp only); (try (with_reducible show wpAny _ _ _ _ _ _)); (try k_fold))
    skip
    (k_with "call ref" => (k_dflt (refine' Spec.use (hkeep _ _ _ _ _ ?s1 ?s2 ?s3) ?hf ?hk ?B ?F ?X ?N ?T ?hd ?hu ?_; (case hf => exact rfl); (case hk => exact rfl); (case B => k_asm); (case F => k_asm); (case X => k_asm); (case N => k_asm); (case T => k_asm); (case s1 => k_mem); (case s2 => (intro q hq; repeat (first | exact hq | apply List.mem_cons_of_mem))); (case s3 => exact rfl); (case hd => first | (dsimp only [AA, Around.deeper]; omega) | decide +kernel); (case hu => first | (dsimp only [AA, Around.deeper]; omega) | decide +kernel); k_whole; intro r9 n9 h9 tk9 R9 F9 N9; obtain hK9 := R9; skip; (try dsimp only); (try k_sweep); (try (with_reducible show wpAny _ _ _ _ _ _)); (try k_fold))))
    (k_with "call ref" => (k_dflt (refine' Spec.use (hnum (by nofun)) ?hf ?hk ?B ?F ?X ?N ?T ?hd ?hu ?_; (case hf => exact rfl); (case hk => exact rfl); (case B => k_asm); (case F => k_asm); (case X => k_asm); (case N => k_asm); (case T => k_asm); (case hd => first | (dsimp only [AA, Around.deeper]; omega) | decide +kernel); (case hu => first | (dsimp only [AA, Around.deeper]; omega) | decide +kernel); k_whole; intro r9 n9 h9 tk9 R9 F9 N9; obtain ⟨a9, t9, u9, e8, e9⟩ := R9; replace e8 := Eq.symm e8; replace e9 := Eq.symm e9; subst e8 e9; (try dsimp only); (try k_sweep); (try (with_reducible show wpAny _ _ _ _ _ _)); (try k_fold))))
    k_steps
    all_goals (exact hret r9 n9 h9 _ tk9 ⟨(fun h => nomatch h.1), fun _ => R9⟩ (by assumption) (by assumption) (by assumption) (by assumption))
  | mul =>
    dsimp only [tupR, Way.str] at hrow
    unfold SpecT; intro p loose mean mg mb dp un gd env outer A₀ base h₀ L m sh Q E hf hk G F N hd hu hret
    refine wpAny_call ?_
    k_dflt (refine' callT ?G ?F ?N ?kA ?kF ?kK ?k6 ?k7 ?k8 ?k9 ?kB ?_ ?c2 ?c3 ?c4 ?c5; (case kA => exact rfl); (case kF => exact hf); (case kK => exact hk); (case G => k_asm); (case F => k_asm); (case N => k_asm); (case k6 => k_is); (case k7 => k_is); (case k8 => (dsimp only [AA]; omega)); (case k9 => first | exact binds_K (by k_in) rfl (by k_is) rfl rfl rfl | exact BindsTo.of_eq rfl); (case c5 => decide); (case kB => exact locs rfl); (case c2 => exact rfl); (case c3 => exact rfl); (case c4 => exact rfl); k_whole; intro g' L' h' FG' F' N' G'; (have B' := G'.B); (have X' := G'.X); (have T' := G'.T); (have XB' := G'.XB); (have TB' := G'.TB); (have D' := G'.D); (try dsimp only); (try (with_reducible show wpAny _ _ _ _ _ _)); (try k_fold))
    skip
    (k_with "call ref" => (k_dflt (refine' Spec.use (hkeep _ _ _ _ _ ?s1 ?s2 ?s3) ?hf ?hk ?B ?F ?X ?N ?T ?hd ?hu ?_; (case hf => exact rfl); (case hk => exact rfl); (case B => k_asm); (case F => k_asm); (case X => k_asm); (case N => k_asm); (case T => k_asm); (case s1 => k_mem); (case s2 => (intro q hq; repeat (first | exact hq | apply List.mem_cons_of_mem))); (case s3 => exact rfl); (case hd => first | (dsimp only [AA, Around.deeper]; omega) | decide +kernel); (case hu => first | (dsimp only [AA, Around.deeper]; omega) | decide +kernel); k_whole; intro r9 n9 h9 tk9 R9 F9 N9; obtain hK9 := R9; skip; (try dsimp only); (try k_sweep); (try (with_reducible show wpAny _ _ _ _ _ _)); (try k_fold))))
    (k_with "call ref" => (k_dflt (refine' Spec.use (hnum (by nofun)) ?hf ?hk ?B ?F ?X ?N ?T ?hd ?hu ?_; (case hf => exact rfl); (case hk => exact rfl); (case B => k_asm); (case F => k_asm); (case X => k_asm); (case N => k_asm); (case T => k_asm); (case hd => first | (dsimp only [AA, Around.deeper]; omega) | decide +kernel); (case hu => first | (dsimp only [AA, Around.deeper]; omega) | decide +kernel); k_whole; intro r9 n9 h9 tk9 R9 F9 N9; obtain ⟨a9, t9, u9, e8, e9⟩ := R9; replace e8 := Eq.symm e8; replace e9 := Eq.symm e9; subst e8 e9; (try dsimp only); (try k_sweep); (try (with_reducible show wpAny _ _ _ _ _ _)); (try k_fold))))
    k_steps
    all_goals (exact hret r9 n9 h9 _ tk9 ⟨(fun h => nomatch h.1), fun _ => R9⟩ (by assumption) (by assumption) (by assumption) (by assumption))
  | div =>
    replace hz := hz rfl
    dsimp only [tupR, Way.str] at hrow
    unfold SpecT; intro p loose mean mg mb dp un gd env outer A₀ base h₀ L m sh Q E hf hk G F N hd hu hret
    refine wpAny_call ?_
    k_dflt (refine' callT ?G ?F ?N ?kA ?kF ?kK ?k6 ?k7 ?k8 ?k9 ?kB ?_ ?c2 ?c3 ?c4 ?c5; (case kA => exact rfl); (case kF => exact hf); (case kK => exact hk); (case G => k_asm); (case F => k_asm); (case N => k_asm); (case k6 => k_is); (case k7 => k_is); (case k8 => (dsimp only [AA]; omega)); (case k9 => first | exact binds_K (by k_in) rfl (by k_is) rfl rfl rfl | exact BindsTo.of_eq rfl); (case c5 => decide); (case kB => exact locs rfl); (case c2 => exact rfl); (case c3 => exact rfl); (case c4 => exact rfl); k_whole; intro g' L' h' FG' F' N' G'; (have B' := G'.B); (have X' := G'.X); (have T' := G'.T); (have XB' := G'.XB); (have TB' := G'.TB); (have D' := G'.D); (try dsimp only); (try (with_reducible show wpAny _ _ _ _ _ _)); (try k_fold))
    skip
    (k_with "call ref" => (k_dflt (refine' Spec.use (hkeep _ _ _ _ _ ?s1 ?s2 ?s3) ?hf ?hk ?B ?F ?X ?N ?T ?hd ?hu ?_; (case hf => exact rfl); (case hk => exact rfl); (case B => k_asm); (case F => k_asm); (case X => k_asm); (case N => k_asm); (case T => k_asm); (case s1 => k_mem); (case s2 => (intro q hq; repeat (first | exact hq | apply List.mem_cons_of_mem))); (case s3 => exact rfl); (case hd => first | (dsimp only [AA, Around.deeper]; omega) | decide +kernel); (case hu => first | (dsimp only [AA, Around.deeper]; omega) | decide +kernel); k_whole; intro r9 n9 h9 tk9 R9 F9 N9; obtain hK9 := R9; skip; (try dsimp only); (try k_sweep); (try (with_reducible show wpAny _ _ _ _ _ _)); (try k_fold))))
    (k_with "call ref" => (k_dflt (refine' Spec.use (hnum (by nofun)) ?hf ?hk ?B ?F ?X ?N ?T ?hd ?hu ?_; (case hf => exact rfl); (case hk => exact rfl); (case B => k_asm); (case F => k_asm); (case X => k_asm); (case N => k_asm); (case T => k_asm); (case hd => first | (dsimp only [AA, Around.deeper]; omega) | decide +kernel); (case hu => first | (dsimp only [AA, Around.deeper]; omega) | decide +kernel); k_whole; intro r9 n9 h9 tk9 R9 F9 N9; obtain ⟨a9, t9, u9, e8, e9⟩ := R9; replace e8 := Eq.symm e8; replace e9 := Eq.symm e9; subst e8 e9; (try dsimp only); (try k_sweep); (try (with_reducible show wpAny _ _ _ _ _ _)); (try k_fold))))
    k_steps
    all_goals (exact hret r9 n9 h9 _ tk9 ⟨(fun h => absurd h.2 hz), fun _ => R9⟩ (by assumption) (by assumption) (by assumption) (by assumption))

example : True := by
  k_with "call ref" => (k_here; (with_reducible show wpAny _ _ (PySem.call (Value.ref 127) _ _) _ _ _); k_dflt (refine wpAny_call ?_; refine' code_def ?kw_k1 ?kw_k2 ?kw_k3 ?kw_k4 ?kw_k5 ?kw_kA ?kw_kF ?kw_kK ?kw_k6 ?kw_k7 ?kw_k8 ?kw_k9 ?kw_kB ?_ ?kw_c2 ?kw_c3 ?kw_c4 ?kw_c5; (case kw_kA => exact rfl); (case kw_kF => exact rfl); (case kw_kK => exact rfl); (case kw_k1 => k_asm); (case kw_k2 => k_asm); (case kw_k3 => k_asm); (case kw_k4 => k_asm); (case kw_k5 => k_asm); (case kw_k6 => k_is); (case kw_k7 => k_is); (case kw_k8 => (dsimp only [AA, Around.deeper]; omega)); (case kw_k9 => first | exact binds_K (by k_in) rfl (by k_is) rfl rfl rfl | exact BindsTo.of_eq rfl); (case kw_c5 => decide); (case kw_kB => exact locs rfl); (case kw_c2 => exact rfl); (case kw_c3 => exact rfl); (case kw_c4 => exact rfl); k_whole; intro g' L' h' FG' F' N' B' X' T'; (try dsimp only); (try (with_reducible show wpAny _ _ _ _ _ _)); (try k_fold)))
  trivial
example : True := by
  k_with "call ref" => (k_here; (with_reducible show wpAny _ _ (PySem.call (Value.ref 113) _ _) _ _ _); k_dflt (refine wpAny_call ?_; refine' code_def ?kw_k1 ?kw_k2 ?kw_k3 ?kw_k4 ?kw_k5 ?kw_kA ?kw_kF ?kw_kK ?kw_k6 ?kw_k7 ?kw_k8 ?kw_k9 ?kw_kB ?_ ?kw_c2 ?kw_c3 ?kw_c4 ?kw_c5; (case kw_kA => exact rfl); (case kw_kF => exact rfl); (case kw_kK => exact rfl); (case kw_k1 => k_asm); (case kw_k2 => k_asm); (case kw_k3 => k_asm); (case kw_k4 => k_asm); (case kw_k5 => k_asm); (case kw_k6 => k_is); (case kw_k7 => k_is); (case kw_k8 => (dsimp only [AA, Around.deeper]; omega)); (case kw_k9 => first | exact binds_K (by k_in) rfl (by k_is) rfl rfl rfl | exact BindsTo.of_eq rfl); (case kw_c5 => decide); (case kw_kB => exact locs rfl); (case kw_c2 => exact rfl); (case kw_c3 => exact rfl); (case kw_c4 => exact rfl); k_whole; intro g' L' h' FG' F' N' B' X' T'; (try dsimp only); (try (with_reducible show wpAny _ _ _ _ _ _)); (try k_fold)))
  trivial
theorem put_row_zero (w : World) (news : Led) (ra qa wa na ka : Addr) (r : Bool) (way : Way) (a wo : Int × Int) (k t1 u1 : Tok) (K : Int × Int → Value → Led → Prop) (no ko : Obj)
    (hrow : (ra, tupR qa r way k) ∈ news) (hw : (wa, tup2 wo.1 wo.2 t1 u1) ∈ news) (oa : PairOk a) (ow : PairOk wo) (hs : a.2 + wo.2 ≤ 30)
    (hn : (na, no) ∈ news) (hk : (ka, ko) ∈ news) (hnf : IsFn no) (hkf : IsFn ko)
    (hnum : way ≠ .put → Spec w (.ref na) [.ref qa] 10 news (NewPair a news))
    (hkeep : ∀ (x : Int × Int) (ta : Addr) (t u : Tok) (led : Led), (ta, tup2 x.1 x.2 t u) ∈ led → (∀ q ∈ news, q ∈ led) → x = wayP way a wo → Spec w (.ref ka) [.ref qa, .ref ta, .bool r] 10 led (K x)) (hz : way = .div ∧ wo.1 = 0) :
    SpecT w (.ref 134) [.ref ra, .ref wa, .ref na, .ref ka] 30 news (PutR way a wo news K) := by
  have hn' := hn; clear hn
  have hk' := hk; clear hk
  obtain ⟨rfl, hz⟩ := hz
  dsimp only [tupR, Way.str] at hrow
  unfold SpecT; intro p loose mean mg mb dp un gd env outer A₀ base h₀ L m sh Q E hf hk G F N hd hu hret
  refine wpAny_call ?_
  k_dflt (refine' callT ?G ?F ?N ?kA ?kF ?kK ?k6 ?k7 ?k8 ?k9 ?kB ?_ ?c2 ?c3 ?c4 ?c5; (case kA => exact rfl); (case kF => exact hf); (case kK => exact hk); (case G => k_asm); (case F => k_asm); (case N => k_asm); (case k6 => k_is); (case k7 => k_is); (case k8 => (dsimp only [AA]; omega)); (case k9 => first | exact binds_K (by k_in) rfl (by k_is) rfl rfl rfl | exact BindsTo.of_eq rfl); (case c5 => decide); (case kB => exact locs rfl); (case c2 => exact rfl); (case c3 => exact rfl); (case c4 => exact rfl); k_whole; intro g' L' h' FG' F' N' G'; (have B' := G'.B); (have X' := G'.X); (have T' := G'.T); (have XB' := G'.XB); (have TB' := G'.TB); (have D' := G'.D); (try dsimp only); (try (with_reducible show wpAny _ _ _ _ _ _)); (try k_fold))
  skip
  (k_with "call ref" => (k_dflt (refine' Spec.use (hnum (by nofun)) ?hf ?hk ?B ?F ?X ?N ?T ?hd ?hu ?_; (case hf => exact rfl); (case hk => exact rfl); (case B => k_asm); (case F => k_asm); (case X => k_asm); (case N => k_asm); (case T => k_asm); (case hd => first | (dsimp only [AA, Around.deeper]; omega) | decide +kernel); (case hu => first | (dsimp only [AA, Around.deeper]; omega) | decide +kernel); k_whole; intro r9 n9 h9 tk9 R9 F9 N9; obtain ⟨a9, t9, u9, e8, e9⟩ := R9; replace e8 := Eq.symm e8; replace e9 := Eq.symm e9; subst e8 e9; (try dsimp only); (try k_sweep); (try (with_reducible show wpAny _ _ _ _ _ _)); (try k_fold))))
  k_steps
  all_goals (first | exact absurd hz (by assumption) | exact hret _ _ _ _ _ ⟨fun _ => ⟨rfl, rfl⟩, fun h => absurd ⟨rfl, hz⟩ h⟩ (by assumption) (by assumption) (by assumption) (cb_drop (by assumption) (by intro q hq; repeat (first | exact hq | apply List.mem_cons_of_mem))))

theorem put_row_spec (w : World) (news : Led) (ra qa wa na ka : Addr) (r : Bool) (way : Way) (a wo : Int × Int) (k t1 u1 : Tok) (K : Int × Int → Value → Led → Prop) (no ko : Obj)
    (hrow : (ra, tupR qa r way k) ∈ news) (hw : (wa, tup2 wo.1 wo.2 t1 u1) ∈ news) (oa : PairOk a) (ow : PairOk wo) (hs : a.2 + wo.2 ≤ 30)
    (hn : (na, no) ∈ news) (hk : (ka, ko) ∈ news) (hnf : IsFn no) (hkf : IsFn ko)
    (hnum : way ≠ .put → Spec w (.ref na) [.ref qa] 10 news (NewPair a news))
    (hkeep : ∀ (x : Int × Int) (ta : Addr) (t u : Tok) (led : Led), (ta, tup2 x.1 x.2 t u) ∈ led → (∀ q ∈ news, q ∈ led) → x = wayP way a wo → Spec w (.ref ka) [.ref qa, .ref ta, .bool r] 10 led (K x)) :
    SpecT w (.ref 134) [.ref ra, .ref wa, .ref na, .ref ka] 30 news (PutR way a wo news K) := by
  have hn' := hn; clear hn
  have hk' := hk; clear hk
  by_cases hz : way = .div ∧ wo.1 = 0
  · exact put_row_zero w news ra qa wa na ka r way a wo k t1 u1 K no ko hrow hw oa ow hs hn' hk' hnf hkf hnum hkeep hz
  · exact put_row_ok w news ra qa wa na ka r way a wo k t1 u1 K no ko hrow hw oa ow hs hn' hk' hnf hkf hnum hkeep (fun h q => hz ⟨h, q⟩)
inductive SeqOf (vs : List Value) : Obj → Prop
  | list (n : Nat) : SeqOf vs { cls := .type "list", data := .seq vs.toArray n }
  | tup : SeqOf vs { cls := .type "tuple", data := .seq vs.toArray }

section
variable {w : World} {A A₀ : Around} {base g₀ g : Heap} {outer : List Env} {env : Env} {L : Addr} {p : Program} {loose : List Str} {mean : ExcName → Option Value} {mg mb : Str → Option Value}
/-- a turn's end -/
inductive LoopEndT (w : World) (p : Program) (loose : List Str) (mean : ExcName → Option Value) (mg mb : Str → Option Value) (A₀ : Around) (base g₀ : Heap) (outer : List Env) (L I : Addr) (it : Obj) (Jn : (Str → Option Value) → Led → Prop) (s : Shared) (f : Flow) (s' : Shared) : Prop
  | mk (e : f = .next) (g' h' : Heap) (tk : Nat) (m' : Str → Option Value) (led' : Led) (e' : s' = { s with heap := h', toks := tk }) (T : KtsTurn (frs outer) g₀ g') (G : Gnd w p loose mean mg mb A₀ base outer g') (F : Fr g' L h' m') (N : News g' L h' ((I, it) :: led')) (nI : ∀ q ∈ led', q.1 ≠ I) (j : Jn m' led') : LoopEndT w p loose mean mg mb A₀ base g₀ outer L I it Jn s f s'
inductive InvT (w : World) (p : Program) (loose : List Str) (mean : ExcName → Option Value) (mg mb : Str → Option Value) (A₀ : Around) (base g₀ : Heap) (outer : List Env) (L I : Addr) (J : Nat → (Str → Option Value) → Led → Prop) (St : Addr → Nat → Heap → Prop) (n : Nat) (s : Shared) (k : Nat) (s' : Shared) : Prop
  | mk (g' h' : Heap) (tk : Nat) (m' : Str → Option Value) (led' : Led) (i : Nat) (it : Obj) (e' : s' = { s with heap := h', toks := tk }) (T : KtsTurn (frs outer) g₀ g') (G : Gnd w p loose mean mg mb A₀ base outer g') (F : Fr g' L h' m') (N : News g' L h' ((I, it) :: led')) (nI : ∀ q ∈ led', q.1 ≠ I) (st : St I i h') (j : J i m' led') (hi : i ≤ n) (ek : k = n + 1 - i) : InvT w p loose mean mg mb A₀ base g₀ outer L I J St n s k s'
theorem seq_walksG {la : Addr} {lo : Obj} {vs : List Value} (hh : A.handled = none) (target : Expr) (hs : SeqOf vs lo) :
    ∃ (c : String) (St : Addr → Nat → Heap → Prop), (∀ I, la ≠ I → Walks PRG w A I [I, la] [I] vs.length (fun i v => vs[i]? = some v) (St I)) ∧
      (∀ I i h, St I i h → ∃ it, h.get? I = some it ∧ it.cls = .type c) ∧
      (∀ I i v (s : Shared) (Q : Unit → Shared → Prop) (E : Value → Shared → Prop), St I i s.heap → Q () s → wpAny (model PRG w) A (letOwnedTupleGo target (.ref I) v) Q E s) ∧
      ∀ (s : Shared) (Q : Value → Shared → Prop) (E : Value → Shared → Prop), s.heap.get? la = some lo →
        (∀ o : Obj, o.cls = .type c → o.isFreed = false → St s.heap.objs.size 0 (s.heap.push o) → Q (.ref s.heap.objs.size) { s with heap := s.heap.push o }) → wpAny (model PRG w) A (pyIter (.ref la)) Q E s := by
  cases hs with
  | list n =>
    refine ⟨"list_iterator", fun I i h => h.IsListIter I la i ∧ h.IsList la vs.toArray, fun I hne => ?_, fun I i h x => ?_, fun I i v s Q E st q => letGo_listiter st.1 q, fun s Q E hl k => ?_⟩
    · have W := Walks.list (prog := PRG) (w := w) hh I la hne vs.toArray
      rw [List.size_toArray] at W
      simpa using W
    · obtain ⟨⟨o, h1, h2, _⟩, _⟩ := x
      exact ⟨o, h1, h2⟩
    · have hL : s.heap.IsList la vs.toArray := ⟨_, hl, rfl, n, rfl⟩
      exact wpAny_pyIter_list hL (k _ rfl rfl ⟨⟨_, Heap.get?_push_size _ rfl, rfl, rfl⟩, hL.push _⟩)
  | tup =>
    refine ⟨"tuple_iterator", fun I i h => h.IsTupleIter I la i ∧ h.IsTuple la vs.toArray, fun I hne => ?_, fun I i h x => ?_, fun I i v s Q E st q => letGo_tupleiter st.1 q, fun s Q E hl k => ?_⟩
    · have W := Walks.tuple (prog := PRG) (w := w) hh I la hne vs.toArray
      rw [List.size_toArray] at W
      simpa using W
    · obtain ⟨⟨o, h1, h2, _⟩, _⟩ := x
      exact ⟨o, h1, h2⟩
    · have hL : s.heap.IsTuple la vs.toArray := ⟨_, hl, rfl, 0, rfl⟩
      exact wpAny_pyIter_tuple hL (k _ rfl rfl ⟨⟨_, Heap.get?_push_size _ rfl, rfl, rfl⟩, hL.push _⟩)
/-- the for-loop, any target -/
theorem loopG {la : Addr} {lo : Obj} {vs : List Value} {target : Expr} {body : List Stmt} {Q : Flow → Shared → Prop} {E : Value → Shared → Prop} {s : Shared} {m : Str → Option Value} {led : Led}
    (J : Nat → (Str → Option Value) → Led → Prop) (hh : A.handled = none) (hs : SeqOf vs lo)
    (T : KtsTurn (frs outer) g₀ g) (G : Gnd w p loose mean mg mb A₀ base outer g) (F : Fr g L s.heap m) (N : News g L s.heap led) (h0 : J 0 m led) (hla : ∀ i m' led', J i m' led' → (la, lo) ∈ led')
    (turn : ∀ i v g' h' tk m' led' I it, vs[i]? = some v → J i m' led' → KtsTurn (frs outer) g₀ g' → Gnd w p loose mean mg mb A₀ base outer g' → Fr g' L h' m' → News g' L h' ((I, it) :: led') → (∀ q ∈ led', q.1 ≠ I) →
      wpAny (model PRG w) A (assign target env v) (fun _ s' => wpAny (model PRG w) A (execs body env) (LoopEndT w p loose mean mg mb A₀ base g₀ outer L I it (J (i + 1)) s) E s') E { s with heap := h', toks := tk })
    (fin : ∀ g' h' tk m' led', J vs.length m' led' → KtsTurn (frs outer) g₀ g' → Gnd w p loose mean mg mb A₀ base outer g' → Fr g' L h' m' → News g' L h' led' → Q .next { s with heap := h', toks := tk })
    (hE : PassesOwn (model PRG w) A env E) :
    wpAny (model PRG w) A (pyIter (.ref la)) (fun it s₂ => codeAny (model PRG w) A (.forLoop target it body [] env) (fun r s' => match r with | .ok f => Q f s' | .error e => cameBackBy (model PRG w) A env E e s') s₂) E s := by
  obtain ⟨c, St, hW, hSt, hgo, hI⟩ := seq_walksG (w := w) (A := A) hh target hs
  have hl := hla _ _ _ h0
  have lt := Heap.lt_size (N _ hl).1
  refine hI s _ E (N _ hl).1 fun o ho hf st => ?_
  generalize hIe : s.heap.objs.size = I at *
  have hne : la ≠ I := Nat.ne_of_lt lt
  have W := KTurns.ofWalks (target := target) (hW I hne) (hgo I)
  have hLI : L ≠ I := hIe ▸ Nat.ne_of_lt F.ns.lt
  have F1 := F.push o
  have N1 := N.push F o hf
  rw [hIe] at N1
  refine codeAny_forLoop_any (InvT w p loose mean mg mb A₀ base g₀ outer L I J St vs.length s) ?_ (vs.length + 1)
    ⟨g, _, s.toks, m, led, 0, o, rfl, T, G, F1, N1, fun q hq => hIe ▸ Nat.ne_of_lt (Heap.lt_size (N q hq).1), st, h0, Nat.zero_le _, rfl⟩
  rintro k s' ⟨g', h', tk, m', led', i, it, rfl, T', G', F', N', nI, st', hJ, hi, rfl⟩
  have nxt : ∀ h₁ : Heap, (∀ b o, b ∉ [I] → h'.get? b = some o → h₁.get? b = some o) → Fr g' L h₁ m' ∧ News g' L h₁ led' := fun h₁ hk₁ =>
    ⟨⟨F'.ns.at' fun o e => hk₁ _ o (fun z => hLI (List.mem_singleton.mp z)) e, fun b o e => hk₁ b o (fun z => by rw [List.mem_singleton.mp z, (N' _ (.head _)).2.2] at e; cases e) (F'.keep b o e), F'.above⟩,
      fun q hq => ⟨hk₁ _ _ (fun z => nI q hq (List.mem_singleton.mp z)) (N' q (.tail _ hq)).1, (N' q (.tail _ hq)).2⟩⟩
  by_cases hlt : i < vs.length
  · refine W.item i _ _ _ hlt st' fun v h₁ tk₁ hM hk₁ => ?_
    refine W.go i v _ _ _ hM fun h₂ hv st₂ hk₂ => ?_
    obtain ⟨F₁, N₁⟩ := nxt h₂ fun b o hb e => hk₂ b o hb (hk₁ b o hb e)
    obtain ⟨it₂, hit₂, _⟩ := hSt I _ _ st₂
    have N₂ : News g' L h₂ ((I, it₂) :: led') := fun q hq => by
      rcases List.mem_cons.mp hq with rfl | hq
      · exact ⟨hit₂, Ne.symm hLI, (N' _ (.head _)).2.2⟩
      · exact N₁ q hq
    refine wpAny_mono (turn i v g' h₂ tk₁ m' led' I it₂ hv hJ T' G' F₁ N₂ nI) (fun _ s₂ h₂' => ?_) (fun e s₂ x => hE e s₂ x)
    refine wpAny_passesOwn hE (wpAny_mono h₂' (fun f s₃ h₃ => ?_) fun _ _ e => e)
    obtain ⟨rfl, g₃, h₃', tk₃, m₃, led₃, rfl, T₃, G₃, F₃, N₃, n₃, J₃⟩ := h₃
    refine ⟨vs.length + 1 - (i + 1), by omega, g₃, h₃', tk₃, m₃, led₃, i + 1, it₂, rfl, T₃, G₃, F₃, N₃, n₃, ?_, J₃, hlt, rfl⟩
    refine W.frame _ _ _ st₂ fun b hb o e => ?_
    rcases List.mem_cons.mp hb with rfl | hb
    · rw [(N₂ _ (.head _)).1] at e
      cases e
      exact (N₃ _ (.head _)).1
    · rw [List.mem_singleton.mp hb] at e ⊢
      rw [(N₂ _ (.tail _ (hla _ _ _ hJ))).1] at e
      cases e
      exact (N₃ _ (.tail _ (hla _ _ _ J₃))).1
  · have hin : i = vs.length := by omega
    subst hin
    refine W.done _ _ _ st' fun h₁ tk₁ hk₁ => wpAny_execs_nil ?_
    obtain ⟨F₁, N₁⟩ := nxt h₁ hk₁
    exact fin g' h₁ tk₁ m' led' hJ T' G' F₁ N₁
theorem loopT {la : Addr} {lo : Obj} {vs : List Value} {x : Str} {px : Pos} {body : List Stmt} {Q : Flow → Shared → Prop} {E : Value → Shared → Prop} {s : Shared} {m : Str → Option Value} {led : Led}
    (J : Nat → (Str → Option Value) → Led → Prop) (hh : A.handled = none) (hs : SeqOf vs lo) (hx : env.kindOf x = some .local) (hL : env.locals = L)
    (hp : (env.scope.kind == .class || (env.scope.kind == .module && env.locals != env.globals)) = false)
    (T : KtsTurn (frs outer) g₀ g) (G : Gnd w p loose mean mg mb A₀ base outer g) (F : Fr g L s.heap m) (N : News g L s.heap led) (h0 : J 0 m led) (hla : ∀ i m' led', J i m' led' → (la, lo) ∈ led')
    (turn : ∀ i v g' h' tk m' led' I it, vs[i]? = some v → J i m' led' → KtsTurn (frs outer) g₀ g' → Gnd w p loose mean mg mb A₀ base outer g' → Fr g' L h' (fun y => if y = x then some v else m' y) → News g' L h' ((I, it) :: led') → (∀ q ∈ led', q.1 ≠ I) →
      wpAny (model PRG w) A (execs body env) (LoopEndT w p loose mean mg mb A₀ base g₀ outer L I it (J (i + 1)) s) E { s with heap := h', toks := tk })
    (fin : ∀ g' h' tk m' led', J vs.length m' led' → KtsTurn (frs outer) g₀ g' → Gnd w p loose mean mg mb A₀ base outer g' → Fr g' L h' m' → News g' L h' led' → Q .next { s with heap := h', toks := tk })
    (hE : PassesOwn (model PRG w) A env E) :
    wpAny (model PRG w) A (pyIter (.ref la)) (fun it s₂ => codeAny (model PRG w) A (.forLoop (.Name x px) it body [] env) (fun r s' => match r with | .ok f => Q f s' | .error e => cameBackBy (model PRG w) A env E e s') s₂) E s :=
  loopG J hh hs T G F N h0 hla (fun i v g' h' tk m' led' I it hv hJ T' G' F' N' nI => by
    subst hL
    exact wpAny_assign_Name (wpAny_storeName_local hx F'.ns (fun h₂ hn₂ hs₂ => turn i v g' h₂ _ m' led' I it hv hJ T' G' (F'.set hn₂ hs₂) (N'.set hs₂) nI) hp)) fin hE
end
noncomputable def run {σ ρ : Type} (fs : ρ → σ → Bool × σ) (q : Bool × σ) (r : ρ) : Bool × σ := (q.1 || (fs r q.2).1, (fs r q.2).2)
example : True := by
  k_with "exec For Name Name cons nil" => (k_here; (with_reducible show wpAny _ _ (exec (Stmt.For (Expr.Name (PySem.Str.ofString "row") _) _ _ _ _) _) _ _ _); k_dflt (refine wpAny_For ?_))
  trivial

theorem addrs_ne {led led' : Led} {I : Addr} (h : led'.map (·.1) = led.map (·.1)) (n : ∀ q ∈ led, q.1 ≠ I) : ∀ q ∈ led', q.1 ≠ I := fun q hq e => by
  have : q.1 ∈ led.map (·.1) := h ▸ List.mem_map_of_mem hq
  obtain ⟨z, hz, hze⟩ := List.mem_map.mp this
  exact n z hz (hze.trans e)
theorem rows_spec (w : World) {σ ρ : Type} (SR : σ → Led → Prop) (rows : List ρ) (adr : ρ → Addr) (fs : ρ → σ → Bool × σ) (la wa na ka : Addr) (lo : Obj) (hs : SeqOf (rows.map fun r => Value.ref (adr r)) lo)
    (hla : ∀ x led, SR x led → (la, lo) ∈ led)
    (hstep : ∀ x led I it r, SR x led → r ∈ rows → (∀ q ∈ led, q.1 ≠ I) →
      SpecT w (.ref 134) [.ref (adr r), .ref wa, .ref na, .ref ka] 30 ((I, it) :: led) (fun v news' => ∃ led', v = .bool (fs r x).1 ∧ SR (fs r x).2 led' ∧ news' = (I, it) :: led' ∧ led'.map (·.1) = led.map (·.1)))
    (x0 : σ) (led0 : Led) (h0 : SR x0 led0) :
    SpecT w (.ref 141) [.ref la, .ref wa, .ref na, .ref ka] 40 led0 (fun v news' => v = .bool (rows.foldl (run fs) (false, x0)).1 ∧ SR (rows.foldl (run fs) (false, x0)).2 news') := by
  unfold SpecT; intro p loose mean mg mb dp un gd env outer A₀ base h₀ L m sh Q E hf hk G F N hd hu hret
  refine wpAny_call ?_
  k_dflt (refine' callT ?G ?F ?N ?kA ?kF ?kK ?k6 ?k7 ?k8 ?k9 ?kB ?_ ?c2 ?c3 ?c4 ?c5; (case kA => exact rfl); (case kF => exact hf); (case kK => exact hk); (case G => k_asm); (case F => k_asm); (case N => k_asm); (case k6 => k_is); (case k7 => k_is); (case k8 => (dsimp only [AA]; omega)); (case k9 => first | exact binds_K (by k_in) rfl (by k_is) rfl rfl rfl | exact BindsTo.of_eq rfl); (case c5 => decide); (case kB => exact locs rfl); (case c2 => exact rfl); (case c3 => exact rfl); (case c4 => exact rfl); k_whole; intro g' L' h' FG' F' N' G'; (have B' := G'.B); (have X' := G'.X); (have T' := G'.T); (have XB' := G'.XB); (have TB' := G'.TB); (have D' := G'.D); (try dsimp only); (try (with_reducible show wpAny _ _ _ _ _ _)); (try k_fold))
  skip
  k_steps
  rename Fr g' L' _ _ => FL
  rename News g' L' _ _ => NL
  revert FL
  generalize hmm : (fun y => if y = PySem.Str.ofString "is_odd" then some (Value.bool false) else _) = mm
  intro FL
  refine loopT (L := L') (g₀ := g') (J := fun i m led => ∃ zv, m = (fun y => if y = PySem.Str.ofString "row" then zv else if y = PySem.Str.ofString "is_odd" then some (Value.bool ((rows.take i).foldl (run fs) (false, x0)).1) else mm y) ∧ SR ((rows.take i).foldl (run fs) (false, x0)).2 led) rfl hs rfl rfl rfl KtsTurn.refl G' FL NL ?h0 ?hla ?turn ?fin ?hE
  case h0 =>
    refine ⟨mm (PySem.Str.ofString "row"), ?_, h0⟩
    funext y
    by_cases y1 : y = PySem.Str.ofString "row"
    · rw [if_pos y1, y1]
    · rw [if_neg y1]
      by_cases y2 : y = PySem.Str.ofString "is_odd"
      · rw [if_pos y2, y2, ← hmm]; rfl
      · rw [if_neg y2]
  case hla =>
    rintro i m' led' ⟨_, _, h⟩
    exact hla _ _ h
  case hE => passes_own
  case fin =>
    rintro g2 h2 tk2 m2 led2 ⟨zv, rfl, hS⟩ T2 G2 F2 N2
    rw [List.take_of_length_le (by simp)] at F2 hS
    subst hmm
    have B2 := G2.B
    have X2 := G2.X
    have TT2 := G2.T
    dsimp only
    k_steps
    all_goals (exact hret _ _ _ _ _ ⟨rfl, hS⟩ (by assumption) (by assumption) (by assumption) (by assumption))
  case turn =>
    rintro i v g2 h2 tk2 m2 led2 I it hv ⟨zv, rfl, hS⟩ T2 G2 F2 N2 nI
    rw [List.getElem?_map] at hv
    obtain ⟨r, hr, rfl⟩ := Option.map_eq_some_iff.mp hv
    have hnext : (rows.take (i + 1)).foldl (run fs) (false, x0) = run fs ((rows.take i).foldl (run fs) (false, x0)) r := by
      rw [List.take_add_one, hr, List.foldl_append]
      rfl
    rw [hnext]
    generalize (rows.take i).foldl (run fs) (false, x0) = q at *
    subst hmm
    have B2 := G2.B
    have X2 := G2.X
    have TT2 := G2.T
    have hc := hstep q.2 led2 I it r hS (List.mem_of_getElem? hr) nI
    (k_with "call ref" => (k_dflt (refine' SpecT.use (hc) ?hf ?hk ?G ?F ?N ?hd ?hu ?_; (case hf => exact rfl); (case hk => exact rfl); (case G => k_asm); (case F => k_asm); (case N => k_asm); (case hd => first | (dsimp only [AA, Around.deeper]; omega) | decide +kernel); (case hu => first | (dsimp only [AA, Around.deeper]; omega) | decide +kernel); k_whole; intro r9 n9 h9 g9 tk9 R9 T9 G9 F9 N9; (have B9 := G9.B); (have X9 := G9.X); (have TT9 := G9.T); (have D9 := G9.D); obtain ⟨led9, e8, S9, e9, a9⟩ := R9; replace e8 := Eq.symm e8; replace e9 := Eq.symm e9; subst e8 e9; (try dsimp only); (try (with_reducible show wpAny _ _ _ _ _ _)); (try k_fold))))
    (try dsimp only)
    (try (with_reducible show wpAny _ _ _ _ _ _))
    (try k_fold)
    k_steps
    all_goals (refine ⟨rfl, _, _, _, _, led9, rfl, KtsTurn.trans T2 T9, by assumption, by assumption, by assumption, addrs_ne a9 nI, some (Value.ref (adr r)), ?_, S9⟩)
    all_goals (
      funext y
      by_cases y1 : y = PySem.Str.ofString "row"
      · have y2 : y ≠ PySem.Str.ofString "is_odd" := by rw [y1]; decide
        simp only [if_pos y1, if_neg y2]
      · by_cases y2 : y = PySem.Str.ofString "is_odd"
        · simp only [if_neg y1, if_pos y2]
          (first
            | (rename (fs r q.2).1 = true => ha; show some (Value.bool true) = some (Value.bool (q.1 || (fs r q.2).1)); rw [ha, Bool.or_true])
            | (rename (fs r q.2).1 = false => ha; show some (Value.bool q.1) = some (Value.bool (q.1 || (fs r q.2).1)); rw [ha, Bool.or_false]))
        · simp only [if_neg y1, if_neg y2])
theorem decL_ok : ∀ (n : Nat) (u : Int) (k : Nat), Bits u k → Bits (decL n u).1 k ∧ 0 ≤ (decL n u).2 ∧ (decL n u).2 ≤ (n : Int)
  | 0, u, k, h => ⟨h, Int.le_refl _, Int.le_refl _⟩
  | n + 1, u, k, h => by
    unfold decL
    split
    · obtain ⟨a, b, c⟩ := decL_ok n (u.fdiv 10) k (Nat.le_trans (bits_fdiv (b := 10) (Nat.le_refl _)) h)
      exact ⟨a, b, by omega⟩
    · exact ⟨h, by show (0 : Int) ≤ (n : Int) + 1; omega, by show (n : Int) + 1 ≤ ((n + 1 : Nat) : Int); omega⟩
theorem decP_ok {u s : Int} {k : Nat} (h : Bits u k) (h0 : 0 ≤ s) (h1 : s ≤ 30) : Bits (decP u s).1 k ∧ 0 ≤ (decP u s).2 ∧ (decP u s).2 ≤ s := by
  unfold decP
  rw [if_neg (by omega)]
  obtain ⟨a, b, c⟩ := decL_ok s.toNat u k h
  exact ⟨a, b, by omega⟩
theorem own_ok {x : Int} {p : Int} (h : Bits x 30) (h0 : -4 ≤ p) (h1 : p ≤ 4) : PairOk (decP x p) ∧ (decP x p).2 ≤ 4 := by
  by_cases q : p < 0
  · unfold decP
    rw [if_pos q]
    refine ⟨⟨Nat.le_trans (bits_mul h (n := 20) ?_) (by decide), Int.le_refl _, (by show (0 : Int) ≤ 30; decide)⟩, (by show (0 : Int) ≤ 4; decide)⟩
    have : p = -1 ∨ p = -2 ∨ p = -3 ∨ p = -4 := by omega
    rcases this with rfl | rfl | rfl | rfl <;> decide +kernel
  · obtain ⟨a, b, c⟩ := decP_ok h (Int.not_lt.mp q) (by omega)
    exact ⟨⟨Nat.le_trans a (by decide), b, by omega⟩, by omega⟩
theorem wayP_ok {way : Way} {a b : Int × Int} (oa : PairOk a) (ob : PairOk b) (hs : a.2 + b.2 ≤ 30) : Bits (wayP way a b).1 1000 ∧ 0 ≤ (wayP way a b).2 ∧ (wayP way a b).2 ≤ 30 := by
  obtain ⟨p1, p2, p3, p4⟩ := besP_ok oa ob
  have a2 := oa.lo; have a3 := oa.hi; have b2 := ob.lo; have b3 := ob.hi
  cases way with
  | put => exact ⟨Nat.le_trans ob.bits (by decide), ob.lo, ob.hi⟩
  | add =>
    obtain ⟨a, b, c⟩ := decP_ok (bits_add p1 p2) p3 p4
    exact ⟨Nat.le_trans a (by decide), b, Int.le_trans c p4⟩
  | sub =>
    obtain ⟨a, b, c⟩ := decP_ok (bits_sub p1 p2) p3 p4
    exact ⟨Nat.le_trans a (by decide), b, Int.le_trans c p4⟩
  | mul =>
    obtain ⟨a, b, c⟩ := decP_ok (bits_mul oa.bits ob.bits) (s := a.2 + b.2) (by omega) hs
    exact ⟨Nat.le_trans a (by decide), b, Int.le_trans c hs⟩
  | div =>
    obtain ⟨x, y, z⟩ := decP_ok (s := 30) (cutQ_bits (b := b.1 * 10 ^ a.2.toNat) (bits_mul oa.bits (bits_pow10 (k := 30 + b.2) (by omega))) (Nat.le_refl _)) (by decide) (by decide)
    exact ⟨Nat.le_trans x (by decide), y, z⟩

/-- the numbers' dict, and the sorts' dict -/
structure HeldOk (names : List Str) (x : Str → Int) (kvs : List (Str × Value)) : Prop where
  keys : kvs.map (·.1) = names
  vals : ∀ nm ∈ names, ∃ t, valueAt kvs nm = some (.int (x nm) t)
  bits : ∀ nm ∈ names, Bits (x nm) 30
structure SortsOk (w : World) (news : Led) (names : List Str) (S : Str → Srt) (kvs : List (Str × Value)) : Prop where
  vals : ∀ nm ∈ names, ∃ a, valueAt kvs nm = some (.ref a) ∧ SrtAt w news a (S nm)
  ok : ∀ nm ∈ names, SrtOk (S nm)
noncomputable def upd (x : Str → Int) (nm : Str) (u : Int) : Str → Int := fun y => if y = nm then u else x y
/-- what keep makes -/
noncomputable def dueP (S : Srt) (told : Int × Int) (r : Bool) : Option Int := fitP (cutR (told.1 * 10 ^ (max 0 S.p).toNat) (10 ^ (told.2 + max 0 (-S.p)).toNat) r) S
noncomputable def storeP (x : Str → Int) (nm : Str) : Option Int → Bool × (Str → Int)
  | none => (true, x)
  | some u => (false, upd x nm u)
noncomputable def Way.isDiv : Way → Bool
  | .div => true
  | _ => false
theorem Way.isDiv_iff {x : Way} : x.isDiv = true ↔ x = .div := by cases x <;> simp [Way.isDiv]
structure RowP where
  nm : Str
  r : Bool
  way : Way
noncomputable def rowF (S : Str → Srt) (wo : Int × Int) (r : RowP) (x : Str → Int) : Bool × (Str → Int) :=
  if r.way.isDiv = true ∧ wo.1 = 0 then (true, x) else storeP x r.nm (dueP (S r.nm) (wayP r.way (decP (x r.nm) (S r.nm).p) wo) r.r)

theorem stored_here {kvs : List (Str × Value)} {nm : Str} {v : Value} : ∀ {u : Value}, valueAt kvs nm = some u → stored kvs nm v = kvs.map fun kv => if kv.1 = nm then (kv.1, v) else kv := fun {u} h => by
  unfold stored
  rw [if_pos]
  have := valueAt_isSome_eq_any kvs nm
  rw [h] at this
  exact this.symm
theorem stored_keys {kvs : List (Str × Value)} {nm : Str} {u v : Value} (h : valueAt kvs nm = some u) : (stored kvs nm v).map (·.1) = kvs.map (·.1) := by
  rw [stored_here h, List.map_map]
  refine List.map_congr_left fun kv _ => ?_
  show (if kv.1 = nm then (kv.1, v) else kv).1 = kv.1
  split <;> rfl
theorem valueAt_map {nm y : Str} {v : Value} : ∀ (kvs : List (Str × Value)), valueAt (kvs.map fun kv => if kv.1 = nm then (kv.1, v) else kv) y = if y = nm then (valueAt kvs y).map (fun _ => v) else valueAt kvs y
  | [] => by split <;> rfl
  | kv :: r => by
    have ih := valueAt_map (nm := nm) (y := y) (v := v) r
    unfold valueAt at ih ⊢
    rw [List.map_cons]
    by_cases q : kv.1 = y
    · have e1 : (if kv.1 = nm then (kv.1, v) else kv).1 = y := by split <;> exact q
      rw [List.find?_cons_of_pos (by simpa using e1), List.find?_cons_of_pos (by simpa using q)]
      by_cases z : y = nm
      · rw [if_pos z, if_pos (q.trans z)]; rfl
      · rw [if_neg z, if_neg (fun e => z (q.symm.trans e))]
    · have e1 : ¬ (if kv.1 = nm then (kv.1, v) else kv).1 = y := by split <;> exact q
      rw [List.find?_cons_of_neg (by simpa using e1), List.find?_cons_of_neg (by simpa using q)]
      exact ih
theorem HeldOk.store {names : List Str} {x : Str → Int} {kvs : List (Str × Value)} {nm : Str} {u : Int} {t : Tok} (h : HeldOk names x kvs) (hn : nm ∈ names) (hu : Bits u 30) : HeldOk names (upd x nm u) (stored kvs nm (.int u t)) := by
  obtain ⟨t₀, hv⟩ := h.vals nm hn
  refine ⟨(stored_keys hv).trans h.keys, fun y hy => ?_, fun y hy => ?_⟩
  · rw [stored_here hv, valueAt_map]
    obtain ⟨t₁, hy₁⟩ := h.vals y hy
    by_cases q : y = nm
    · rw [if_pos q, hy₁]
      exact ⟨t, by unfold upd; rw [if_pos q]; rfl⟩
    · rw [if_neg q, hy₁]
      exact ⟨t₁, by unfold upd; rw [if_neg q]⟩
  · unfold upd
    split
    · exact hu
    · exact h.bits y hy
theorem fitP_bits {u v : Int} {S : Srt} (ok : SrtOk S) (h : fitP u S = some v) : Bits v 30 := by
  unfold fitP at h
  by_cases hlt : (10 : Int) ^ S.d.toNat ≤ (if u < 0 then -u else u)
  · rw [if_pos hlt] at h
    cases h
  · rw [if_neg hlt] at h
    have e : (if u < 0 then -u else u) < 10 ^ S.d.toNat := Int.not_le.mp hlt
    have h6 : ((10 ^ S.d.toNat : Nat) : Int) ≤ ((10 ^ 6 : Nat) : Int) := by
      obtain ⟨d0, d1, _, _⟩ := ok
      exact Int.ofNat_le.mpr (Nat.pow_le_pow_right (by decide) (by omega))
    have e6 : (if u < 0 then -u else u) < 1000000 := Int.lt_of_lt_of_le e (by rw [Int.natCast_pow] at h6; exact h6)
    have hv := Option.some.inj h
    have : v.natAbs < 2 ^ 30 := by
      rw [← hv]
      split at e6 <;> split <;> omega
    exact intBits_le this
theorem ne_of_data {h₀ h : Heap} {L a b : Addr} {news : Led} {o1 o2 : Obj} (N : News h₀ L h news) (h1 : (a, o1) ∈ news) (h2 : (b, o2) ∈ news) (hne : o1.data ≠ o2.data) : a ≠ b := fun e => by
  subst e
  have := (N _ h1).1.symm.trans (N _ h2).1
  cases this
  exact hne rfl
theorem dict_ne_seq {o : Obj} {kvs : List (Str × Value)} {w : World} {a : Array Value} {n : Nat} (hd : o.IsDictOf (strKind PRG w) kvs) : Data.seq a n ≠ o.data := by
  obtain ⟨es, ep, _, h, _⟩ := hd
  rw [h]
  nofun
theorem SpecT.mono {w : World} {fv : Value} {vs : List Value} {cost : Nat} {news : Led} {R R' : Value → Led → Prop} (S : SpecT w fv vs cost news R) (h : ∀ v n, R v n → R' v n) : SpecT w fv vs cost news R' := by
  unfold SpecT
  intro p loose mean mg mb dp un gd env outer A₀ base h₀ L m s Q E hf hk G F N hd hu hret
  exact S.use hf hk G F N hd hu fun r news' h' h₀' tk' hR T' G' F' N' => hret r news' h' h₀' tk' (h _ _ hR) T' G' F' N'
theorem Spec.sub {w : World} {fv : Value} {vs : List Value} {cost : Nat} {news led : Led} {R : Value → Led → Prop} (S : Spec w fv vs cost news R) (hs : ∀ q ∈ news, q ∈ led) : Spec w fv vs cost led R := by
  unfold Spec
  intro p loose mean mg mb dp un gd env outer A₀ base h₀ L m s Q E hf hk B F X N T hd hu hret
  exact S.use hf hk B F X (fun q hq => N q (hs q hq)) T hd hu hret
/-- a fact that every state at hand gives -/
theorem Spec.given {w : World} {fv : Value} {vs : List Value} {cost : Nat} {news : Led} {R : Value → Led → Prop} {P : Prop} (hP : ∀ h₀ L h, News h₀ L h news → P) (S : P → Spec w fv vs cost news R) : Spec w fv vs cost news R := by
  unfold Spec
  intro p loose mean mg mb dp un gd env outer A₀ base h₀ L m s Q E hf hk B F X N T hd hu hret
  exact (S (hP _ _ _ N)).use hf hk B F X N T hd hu hret
noncomputable abbrev tupQ (nm : Str) (k1 k2 : Tok) : Obj := { cls := .type "tuple", data := .seq [Value.str (Str.ofString "ref") k1, Value.str nm k2].toArray }
/-- a row as it lies on the heap -/
structure RowA where
  ra : Addr
  qa : Addr
  row : RowP
  k : Tok
  k1 : Tok
  k2 : Tok
structure RowAt (rest : Led) (names : List Str) (x : RowA) : Prop where
  row : (x.ra, tupR x.qa x.row.r x.row.way x.k) ∈ rest
  ref : (x.qa, tupQ x.row.nm x.k1 x.k2) ∈ rest
  nm : x.row.nm ∈ names
noncomputable def LamC (w : World) (na : Addr) (top : List (Addr × Obj)) (hdA : Addr) (bot rest : Led) (kvsS : List (Str × Value)) : Prop :=
  ∀ (oH : Obj) (kvs : List (Str × Value)) (I : Addr) (it : Obj) (qa : Addr) (nm : Str) (k1 k2 : Tok) (xv : Int) (t : Tok) (srt : Srt) (a0 : Addr),
    oH.IsDictOf (strKind PRG w) kvs → valueAt kvs nm = some (.int xv t) → Bits xv 30 → SrtOk srt → (qa, tupQ nm k1 k2) ∈ rest → valueAt kvsS nm = some (.ref a0) → SrtAt w rest a0 srt →
    Spec w (.ref na) [.ref qa] 10 ((I, it) :: (top ++ (hdA, oH) :: bot)) (NewPair (decP xv srt.p) ((I, it) :: (top ++ (hdA, oH) :: bot)))
noncomputable def KeepC (w : World) (ka : Addr) (top : List (Addr × Obj)) (hdA : Addr) (bot rest : Led) (kvsS : List (Str × Value)) : Prop :=
  ∀ (oH : Obj) (kvs : List (Str × Value)) (I : Addr) (it : Obj) (qa : Addr) (nm : Str) (k1 k2 : Tok) (xv : Int) (t : Tok) (srt : Srt) (a0 : Addr) (told : Int × Int) (ta : Addr) (t3 u3 : Tok) (r : Bool),
    oH.IsDictOf (strKind PRG w) kvs → valueAt kvs nm = some (.int xv t) → kvs.length ≤ 3 → SrtOk srt → (qa, tupQ nm k1 k2) ∈ rest → valueAt kvsS nm = some (.ref a0) → SrtAt w rest a0 srt →
    Bits told.1 1000 → 0 ≤ told.2 → told.2 ≤ 30 → I ≠ hdA → ta ≠ hdA →
    Spec w (.ref ka) [.ref qa, .ref ta, .bool r] 10 ((ta, tup2 told.1 told.2 t3 u3) :: (I, it) :: (top ++ (hdA, oH) :: bot))
      (fun v news' => (dueP srt told r = none → v = .bool true ∧ news' = (I, it) :: (top ++ (hdA, oH) :: bot)) ∧
        (∀ u, dueP srt told r = some u → v = .bool false ∧ ∃ oH' k, oH'.IsDictOf (strKind PRG w) (stored kvs nm (.int u k)) ∧ news' = (I, it) :: (top ++ (hdA, oH') :: bot)))
noncomputable def DoneSR (w : World) (names : List Str) (top : List (Addr × Obj)) (hdA : Addr) (bot : Led) (x : Str → Int) (led : Led) : Prop :=
  ∃ oH kvs, led = top ++ (hdA, oH) :: bot ∧ oH.IsDictOf (strKind PRG w) kvs ∧ HeldOk names x kvs
theorem dueP_bits {S : Srt} {told : Int × Int} {r : Bool} {u : Int} (ok : SrtOk S) (h : dueP S told r = some u) : Bits u 30 := fitP_bits ok h
theorem storeP_none {x : Str → Int} {nm : Str} {o : Option Int} (h : o = none) : storeP x nm o = (true, x) := by subst h; rfl
theorem storeP_some {x : Str → Int} {nm : Str} {o : Option Int} {u : Int} (h : o = some u) : storeP x nm o = (false, upd x nm u) := by subst h; rfl

theorem done_call (w : World) (names : List Str) (hlen : names.length ≤ 3) (S : Str → Srt) (x0 : Str → Int) (wo : Int × Int) (rows : List RowA) (rest : Led) (hdA sd la wa na ka : Addr) (oH oS lo : Obj) (kvsH kvsS : List (Str × Value)) (t1 u1 : Tok) (top : List (Addr × Obj))
    (hH : oH.IsDictOf (strKind PRG w) kvsH) (ok : HeldOk names x0 kvsH) (oks : SortsOk w rest names S kvsS) (hl : (la, lo) ∈ rest) (hs : SeqOf (rows.map fun r => Value.ref r.ra) lo)
    (hw : (wa, tup2 wo.1 wo.2 t1 u1) ∈ rest) (ow : PairOk wo) (ow6 : wo.2 ≤ 6) (hrows : ∀ r ∈ rows, RowAt rest names r)
    (hn : ∃ no, (na, no) ∈ top ∧ IsFn no) (hk : ∃ ko, (ka, ko) ∈ top ∧ IsFn ko)
    (hnum : LamC w na top hdA ((sd, oS) :: rest) rest kvsS) (hkeep : KeepC w ka top hdA ((sd, oS) :: rest) rest kvsS) :
    SpecT w (.ref 141) [.ref la, .ref wa, .ref na, .ref ka] 40 (top ++ (hdA, oH) :: (sd, oS) :: rest)
      (fun v news' => v = .bool (rows.foldl (run fun r => rowF S wo r.row) (false, x0)).1 ∧ DoneSR w names top hdA ((sd, oS) :: rest) (rows.foldl (run fun r => rowF S wo r.row) (false, x0)).2 news') := by
  obtain ⟨no, hn, hnf⟩ := hn
  obtain ⟨ko, hk, hkf⟩ := hk
  have inR : ∀ (oH : Obj), ∀ q ∈ rest, q ∈ top ++ (hdA, oH) :: (sd, oS) :: rest := fun oH q hq => List.mem_append_right _ (.tail _ (.tail _ hq))
  have inT : ∀ (oH : Obj), ∀ q ∈ top, q ∈ top ++ (hdA, oH) :: (sd, oS) :: rest := fun oH q hq => List.mem_append_left _ hq
  refine rows_spec w (DoneSR w names top hdA ((sd, oS) :: rest)) rows (fun r => r.ra) (fun r => rowF S wo r.row) la wa na ka lo hs ?_ ?_ x0 _ ⟨oH, kvsH, rfl, hH, ok⟩
  · rintro x led ⟨oH', _, rfl, _, _⟩
    exact inR _ _ hl
  rintro x led I it r ⟨oH', kvs', rfl, hd', ok'⟩ hr nI
  obtain ⟨hr1, hr2, hrn⟩ := hrows r hr
  obtain ⟨t₀, hv₀⟩ := ok'.vals _ hrn
  obtain ⟨a₀, hs₀, hsrt⟩ := oks.vals _ hrn
  have hso := oks.ok _ hrn
  have hb := ok'.bits _ hrn
  obtain ⟨oa, oa4⟩ := own_ok hb hso.p0 hso.p1
  obtain ⟨wb, w0, w30⟩ := wayP_ok (way := r.row.way) oa ow (by omega)
  have hI : I ≠ hdA := fun e => nI (hdA, oH') (List.mem_append_right _ (.head _)) e.symm
  refine SpecT.mono (put_row_spec w _ r.ra r.qa wa na ka r.row.r r.row.way (decP (x r.row.nm) (S r.row.nm).p) wo r.k t1 u1
    (fun told v news' => ∃ led', v = .bool (storeP x r.row.nm (dueP (S r.row.nm) told r.row.r)).1 ∧ DoneSR w names top hdA ((sd, oS) :: rest) (storeP x r.row.nm (dueP (S r.row.nm) told r.row.r)).2 led' ∧ news' = (I, it) :: led' ∧ led'.map (·.1) = (top ++ (hdA, oH') :: (sd, oS) :: rest).map (·.1))
    no ko (.tail _ (inR _ _ hr1)) (.tail _ (inR _ _ hw)) oa ow (by omega) (.tail _ (inT _ _ hn)) (.tail _ (inT _ _ hk)) hnf hkf
    (fun _ => hnum oH' kvs' I it r.qa r.row.nm r.k1 r.k2 _ t₀ _ a₀ hd' hv₀ hb hso hr2 hs₀ hsrt) ?keep) ?fin
  case fin =>
    rintro v n ⟨h1, h2⟩
    by_cases hz : r.row.way = .div ∧ wo.1 = 0
    · obtain ⟨rfl, rfl⟩ := h1 hz
      refine ⟨_, ?_, ?_, rfl, rfl⟩
      · unfold rowF; rw [if_pos ⟨Way.isDiv_iff.mpr hz.1, hz.2⟩]
      · unfold rowF; rw [if_pos ⟨Way.isDiv_iff.mpr hz.1, hz.2⟩]; exact ⟨oH', kvs', rfl, hd', ok'⟩
    · have e : rowF S wo r.row x = storeP x r.row.nm (dueP (S r.row.nm) (wayP r.row.way (decP (x r.row.nm) (S r.row.nm).p) wo) r.row.r) := by
        unfold rowF; rw [if_neg (fun h => hz ⟨Way.isDiv_iff.mp h.1, h.2⟩)]
      rw [e]
      exact h2 hz
  case keep =>
    rintro told ta t u led hta hsub rfl
    refine Spec.given (P := ta ≠ hdA) (fun h₀ L h N => ne_of_data N hta (hsub _ (.tail _ (List.mem_append_right _ (.head _)))) (dict_ne_seq hd')) fun hne => ?_
    have hc := hkeep oH' kvs' I it r.qa r.row.nm r.k1 r.k2 _ t₀ _ a₀ _ ta t u r.row.r hd' hv₀ (by have := congrArg List.length ok'.keys; rw [List.length_map] at this; omega) hso hr2 hs₀ hsrt wb w0 w30 hI hne
    refine Spec.sub (news := (ta, tup2 (wayP r.row.way (decP (x r.row.nm) (S r.row.nm).p) wo).1 (wayP r.row.way (decP (x r.row.nm) (S r.row.nm).p) wo).2 t u) :: (I, it) :: (top ++ (hdA, oH') :: (sd, oS) :: rest)) ?_ (fun q hq => ?_)
    rotate_left
    · rcases List.mem_cons.mp hq with rfl | hq
      · exact hta
      · exact hsub _ hq
    unfold Spec at hc ⊢
    intro p loose mean mg mb dp un gd env outer A₀ base h₀ L m s Q E hf hk B F X N T hd hu hret
    refine Spec.use hc hf hk B F X N T hd hu fun v news' h' tk' hR F' N' => hret v news' h' tk' ?_ F' N'
    cases hdue : dueP (S r.row.nm) (wayP r.row.way (decP (x r.row.nm) (S r.row.nm).p) wo) r.row.r with
    | none =>
      obtain ⟨rfl, rfl⟩ := hR.1 hdue
      exact ⟨_, rfl, ⟨oH', kvs', rfl, hd', ok'⟩, rfl, rfl⟩
    | some u9 =>
      obtain ⟨rfl, oH2, k9, hd2, rfl⟩ := hR.2 u9 hdue
      exact ⟨_, rfl, ⟨oH2, _, rfl, hd2, ok'.store hrn (dueP_bits hso hdue)⟩, rfl, by simp⟩
theorem Spec.mono {w : World} {fv : Value} {vs : List Value} {cost : Nat} {news : Led} {R R' : Value → Led → Prop} (S : Spec w fv vs cost news R) (h : ∀ v n, R v n → R' v n) : Spec w fv vs cost news R' := by
  unfold Spec
  intro p loose mean mg mb dp un gd env outer A₀ base h₀ L m s Q E hf hk B F X N T hd hu hret
  exact S.use hf hk B F X N T hd hu fun r news' h' tk' hR F' N' => hret r news' h' tk' (h _ _ hR) F' N'
theorem ten_ne (k : Nat) : (10 : Int) ^ k ≠ 0 := Int.pow_ne_zero (by decide)
theorem codeQ {h₀ h : Heap} {L c : Addr} {oc : Obj} {vs : Array Value} {q qual : Str} {t : Tok} {news : Led} (N : News h₀ L h news) (hm : (c, oc) ∈ news) (hd : oc.data = .fields vs) (hv : vs[1]? = some (.str q t)) (e : q = qual) : h.CodeRec (.ref c) qual := by
  subst e
  exact codeRec_news N hm hd hv
noncomputable def CodeQ (oc : Obj) (q : String) : Prop := ∃ vs t, oc.data = .fields vs ∧ vs[1]? = some (.str (Str.ofString q) t)
theorem codeQ_of {oc : Obj} {vs : Array Value} {q : Str} {q' : String} {t : Tok} (hd : oc.data = .fields vs) (hv : vs[1]? = some (.str q t)) (e : q = Str.ofString q') : CodeQ oc q' := ⟨vs, t, hd, by rw [← e]; exact hv⟩
/-- the table of the two texts made within -/
noncomputable abbrev tabD (c1 c2 : Addr) : Obj := tabObj (#[] ++ #[rawInt ↑109, rawInt ↑4, Value.ref c1] ++ #[rawInt ↑116, rawInt ↑38, Value.ref c2])
noncomputable def DoneR (w : World) (names : List Str) (S : Str → Srt) (x0 : Str → Int) (wo : Int × Int) (rows : List RowA) (hdA sd : Addr) (oS : Obj) (rest : Led) (c1 c2 : Addr) (oc1 oc2 : Obj) (v : Value) (news' : Led) : Prop :=
  ∃ oH' kvs', oH'.IsDictOf (strKind PRG w) kvs' ∧ HeldOk names (rows.foldl (run fun r => rowF S wo r.row) (false, x0)).2 kvs' ∧ v = .bool (rows.foldl (run fun r => rowF S wo r.row) (false, x0)).1 ∧
    news' = (179, tabD c1 c2) :: (c1, oc1) :: (c2, oc2) :: (hdA, oH') :: (sd, oS) :: rest
theorem done_sub {h₀ h : Heap} {L c1 c2 hdA sd : Addr} {oc1 oc2 oH oS : Obj} {q1 q2 q3 q4 : Addr × Obj} {rest : Led} (N : News h₀ L h (q1 :: (c2, oc2) :: q2 :: (c1, oc1) :: q3 :: q4 :: (179, tabD c1 c2) :: (hdA, oH) :: (sd, oS) :: rest)) :
    News h₀ L h ((179, tabD c1 c2) :: (c1, oc1) :: (c2, oc2) :: (hdA, oH) :: (sd, oS) :: rest) := fun q hq => N q (by
  rcases List.mem_cons.mp hq with rfl | hq
  · exact .tail _ (.tail _ (.tail _ (.tail _ (.tail _ (.tail _ (.head _))))))
  · rcases List.mem_cons.mp hq with rfl | hq
    · exact .tail _ (.tail _ (.tail _ (.head _)))
    · rcases List.mem_cons.mp hq with rfl | hq
      · exact .tail _ (.head _)
      · exact .tail _ (.tail _ (.tail _ (.tail _ (.tail _ (.tail _ (.tail _ hq)))))))
example : True := by
  k_with "subscriptTail" => (k_here; (with_reducible show wpAny _ _ (subscriptTail _ _ (Value.ref _) (Value.str _ _)) _ _ _); k_dflt (refine' kda_item (knd := PySem.strKind _ _) ?kw_kN ?kw_kp ?kw_kd (strKind_is _ _ _ _) ?kw_kv ?_; (case kw_kN => k_asm); (case kw_kp => k_mem); (case kw_kd => assumption); (case kw_kv => assumption)))
  trivial
example : True := by
  k_with "setItem ref str" => (k_here; k_dflt (refine' kda_set (knd := PySem.strKind _ _) ?kw_F ?kw_N ?kw_U ?kw_d (strKind_is _ _ _ _) ?kw_z ?_; (case kw_F => k_asm); (case kw_N => k_asm); (case kw_U => k_updF); (case kw_d => assumption); (case kw_z => (rw [sizeLine_eq]; omega))); intro h' o' F' N' hd'; (try dsimp only at N'))
  trivial
local macro_rules | `(tactic| k_mem) => `(tactic| (repeat (first | assumption | apply List.mem_cons_of_mem)); done)
section
variable {w : World} {na ka hdA a b : Addr} {bot rest : Led} {kvsS : List (Str × Value)} {X Y : Obj} {q1 q2 q3 q4 q5 q6 p0 p1 p2 : Addr × Obj} {fv : Value} {vs : List Value} {n : Nat} {l : Led} {R : Value → Led → Prop}
/-- a function object stands for itself by one fact alone: the ledger stays short in the proof's term -/
theorem lam_genA (h : ∀ oX oY, oX = X → LamC w na [(a, oX), q1, (b, oY), q3, q4, q5, q6] hdA bot rest kvsS) : LamC w na [(a, X), q1, (b, Y), q3, q4, q5, q6] hdA bot rest kvsS := h X Y rfl
theorem lam_genB (h : ∀ oX oY, oX = X → LamC w na [(a, oX), (b, oY), q2, q3, q4, q5, q6] hdA bot rest kvsS) : LamC w na [(a, X), (b, Y), q2, q3, q4, q5, q6] hdA bot rest kvsS := h X Y rfl
theorem keep_genA (h : ∀ oX oY, oY = Y → KeepC w ka [(a, oX), q1, (b, oY), q3, q4, q5, q6] hdA bot rest kvsS) : KeepC w ka [(a, X), q1, (b, Y), q3, q4, q5, q6] hdA bot rest kvsS := h X Y rfl
theorem keep_genB (h : ∀ oX oY, oY = Y → KeepC w ka [(a, oX), (b, oY), q2, q3, q4, q5, q6] hdA bot rest kvsS) : KeepC w ka [(a, X), (b, Y), q2, q3, q4, q5, q6] hdA bot rest kvsS := h X Y rfl
theorem mem_lam {oX : Obj} (e : oX = X) (h : (a, X) ∈ (a, oX) :: l → Spec w fv vs n (p0 :: (a, oX) :: l) R) : Spec w fv vs n (p0 :: (a, oX) :: l) R := h (e ▸ .head _)
theorem mem_keepA {oY : Obj} (e : oY = Y) (h : (a, Y) ∈ (a, oY) :: l → Spec w fv vs n (p0 :: p1 :: p2 :: q1 :: (a, oY) :: l) R) : Spec w fv vs n (p0 :: p1 :: p2 :: q1 :: (a, oY) :: l) R := h (e ▸ .head _)
theorem mem_keepB {oY : Obj} (e : oY = Y) (h : (a, Y) ∈ (a, oY) :: l → Spec w fv vs n (p0 :: p1 :: p2 :: (a, oY) :: l) R) : Spec w fv vs n (p0 :: p1 :: p2 :: (a, oY) :: l) R := h (e ▸ .head _)
end
theorem done_first (w : World) (names : List Str) (hlen : names.length ≤ 3) (S : Str → Srt) (x0 : Str → Int) (wo : Int × Int) (rows : List RowA) (rest : Led) (hdA sd la wa : Addr) (oH oS lo : Obj) (kvsH kvsS : List (Str × Value)) (t1 u1 : Tok)
    (hH : oH.IsDictOf (strKind PRG w) kvsH) (hS : oS.IsDictOf (strKind PRG w) kvsS) (ok : HeldOk names x0 kvsH) (oks : SortsOk w rest names S kvsS) (hl : (la, lo) ∈ rest) (hs : SeqOf (rows.map fun r => Value.ref r.ra) lo)
    (hw : (wa, tup2 wo.1 wo.2 t1 u1) ∈ rest) (ow : PairOk wo) (ow6 : wo.2 ≤ 6) (hrows : ∀ r ∈ rows, RowAt rest names r)
    (n1 : @Ne Nat hdA 179) (n2 : @Ne Nat sd 179) (n3 : ∀ p ∈ rest, p.1 ≠ 179) (n4 : @Ne Nat sd hdA) (n5 : ∀ p ∈ rest, p.1 ≠ hdA) :
    SpecT w (.ref 184) [.ref hdA, .ref sd, .ref la, .ref wa] 60 ((179, tabObj #[]) :: (hdA, oH) :: (sd, oS) :: rest) (fun v news' => ∃ c1 c2 oc1 oc2, CodeQ oc1 "_law_done.<locals>.keep" ∧ CodeQ oc2 "_law_done.<locals>.<lambda>" ∧ DoneR w names S x0 wo rows hdA sd oS rest c1 c2 oc1 oc2 v news') := by
  unfold SpecT; intro p loose mean mg mb dp un gd env outer A₀ base h₀ L m sh Q E hf hk G F N hd hu hret
  refine wpAny_call ?_
  k_dflt (refine' callTC ?G ?F ?N ?kA ?kF ?kK ?k6 ?k7 ?k8 ?k9 ?kB ?kD ?_ ?c2 ?c3 ?c4; (case kA => exact rfl); (case kF => exact hf); (case kK => exact hk); (case G => k_asm); (case F => k_asm); (case N => k_asm); (case k6 => k_is); (case k7 => k_is); (case k8 => (dsimp only [AA]; omega)); (case k9 => first | exact binds_K (by k_in) rfl (by k_is) rfl rfl rfl | exact BindsTo.of_eq rfl); (case kB => exact rfl); (case kD => decide +kernel); (case c2 => exact rfl); (case c3 => exact rfl); (case c4 => exact rfl); k_whole; intro g' L' h' tk' cells' FG' F' N' Y' G' l1; (try k_lt l1); (have B' := G'.B); (have X' := G'.X); (have T' := G'.T); (have XB' := G'.XB); (have TB' := G'.TB); (have D' := G'.D); k_cells Y'; (try simp only [List.cons_append, List.nil_append] at N'); (try dsimp only); (try (with_reducible show wpAny _ _ _ _ _ _)); (try k_fold))
  have C' : CodeHd g' 183 179 := codeHd_of_K X' (by kernel_rfl)
  skip
  k_steps
  rename Fr g' L' _ _ => FL
  rename News g' L' _ _ => NL
  refine SpecT.use (done_call w names hlen S x0 wo rows rest hdA sd la wa _ _ oH oS lo kvsH kvsS t1 u1 [_, _, _, _, _, _, _] hH ok oks hl hs hw ow ow6 hrows ?hn ?hk ?hnum ?hkeep) rfl rfl G' FL NL (by dsimp only [AA, Around.deeper]; omega) (by dsimp only [AA, Around.deeper]; omega) ?ret
  case hn => exact ⟨_, .head _, _, _, _, _, rfl⟩
  case hk => exact ⟨_, .tail _ (.tail _ (.head _)), _, _, _, _, rfl⟩
  case hnum =>
    refine lam_genA ?_
    intro oX oY eX
    intro oH kvs I it qa nm k1 k2 xv t srt a0 hd hv hb hso hq hsv hsr
    dsimp only [List.cons_append, List.nil_append]
    clear NL FL G' hret N F
    have hsr' := hsr
    obtain ⟨x1, x2, x3, x4⟩ := hso
    obtain ⟨tS, uS, hsr⟩ := hsr
    refine mem_lam eX (fun hmX => ?_)
    clear eX
    unfold Spec; intro p loose mean mg mb dp un gd env outer A₀ base h₀ L m sh Q E hf hk B F X N T hd hu hret
    refine wpAny_call ?_
    k_dflt (refine' kla_code ?k1 ?k2 ?k3 ?k4 ?k5 ?kA ?kF ?kK ?k6 ?k7 ?k8 ?k9 ?kB ?_ ?c2 ?c3 ?c4 ?c5; (case kA => exact rfl); (case kF => exact hf); (case kK => exact hk); (case k1 => k_asm); (case k2 => k_asm); (case k3 => k_asm); (case k4 => k_asm); (case k5 => k_asm); (case k6 => k_mem); (case k7 => exact codeQ (by k_asm) (by k_mem) (by assumption) (by assumption) (by kernel_rfl)); (case k8 => (dsimp only [AA]; omega)); (case k9 => exact rfl); (case c5 => decide); (case kB => exact locs rfl); (case c2 => exact rfl); (case c3 => exact rfl); (case c4 => exact rfl); k_whole; intro g' L' h' FG' F' N' B' X' T'; (try dsimp only); (try k_lift B'); (try (with_reducible show wpAny _ _ _ _ _ _)); (try k_fold))
    skip
    k_steps
    all_goals (exact hret _ _ _ _ ⟨_, _, _, rfl, rfl⟩ (by k_asm) (by k_asm))
  case hkeep =>
    refine keep_genA ?_
    intro oX oY eY
    intro oH kvs I it qa nm k1 k2 xv t srt a0 told ta t3 u3 r hd hv hlen hso hq hsv hsr hb t0 t30 hI hta
    dsimp only [List.cons_append, List.nil_append]
    clear NL FL G' hret N F
    have hso' := hso
    have hsr' := hsr
    replace hI : @Ne Nat I hdA := hI
    replace hta : @Ne Nat ta hdA := hta
    obtain ⟨x1, x2, x3, x4⟩ := hso
    obtain ⟨tS, uS, hsr⟩ := hsr
    have hz : (10 : Int) ^ (told.2 + max 0 (-srt.p)).toNat ≠ 0 := ten_ne _
    refine mem_keepA eY (fun hmY => ?_)
    clear eY
    unfold Spec; intro p loose mean mg mb dp un gd env outer A₀ base h₀ L m sh Q E hf hk B F X N T hd hu hret
    refine wpAny_call ?_
    k_dflt (refine' code_nest ?k1 ?k2 ?k3 ?k4 ?k5 ?kA ?kF ?kK ?k6 ?k7 ?k8 ?k9 ?kB ?_ ?c2 ?c3 ?c4 ?c5; (case kA => exact rfl); (case kF => exact hf); (case kK => exact hk); (case k1 => k_asm); (case k2 => k_asm); (case k3 => k_asm); (case k4 => k_asm); (case k5 => k_asm); (case k6 => k_mem); (case k7 => exact codeQ (by k_asm) (by k_mem) (by assumption) (by assumption) (by kernel_rfl)); (case k8 => (dsimp only [AA]; omega)); (case k9 => exact BindsTo.of_eq rfl); (case c5 => decide); (case kB => exact locs rfl); (case c2 => exact rfl); (case c3 => exact rfl); (case c4 => exact rfl); k_whole; intro g' L' h' FG' F' N' B' X' T'; (try dsimp only); (try k_lift B'); (try (with_reducible show wpAny _ _ _ _ _ _)); (try k_fold))
    skip
    k_steps
    rename optV _ _ => e9
    cases hdue : dueP srt told r with
    | none =>
      have hdue' := hdue
      unfold dueP at hdue
      rw [hdue] at e9
      obtain rfl := e9
      k_steps
      all_goals (rename News _ _ _ _ => N8; rename Fr _ _ _ _ => F8; exact hret _ _ _ _ ⟨fun _ => ⟨rfl, rfl⟩, fun u h => (nomatch hdue'.symm.trans h)⟩ F8 (fun q hq => N8 q (.tail _ hq)))
    | some u9 =>
      have hdue' := hdue
      unfold dueP at hdue
      rw [hdue] at e9
      obtain ⟨k9, rfl⟩ := e9
      k_steps
      all_goals (rename News _ _ _ _ => N8; rename Fr _ _ _ _ => F8; rename Obj.IsDictOf _ _ (stored _ _ _) => d8; exact hret _ _ _ _ ⟨fun h => (nomatch hdue'.symm.trans h), fun u h => by cases hdue'.symm.trans h; exact ⟨rfl, _, _, d8, rfl⟩⟩ F8 (fun q hq => N8 q (.tail _ hq)))
  case ret =>
    intro r9 n9 h9 g9 tk9 R9 T9 G9 F9 N9
    obtain ⟨rfl, oH9, kvs9, rfl, d9, ok9⟩ := R9
    dsimp only [List.cons_append, List.nil_append] at N9
    have B9 := G9.B
    have X9 := G9.X
    have TT9 := G9.T
    k_steps
    all_goals (rename News _ _ _ _ => N8; have N7 := done_sub N8; exact hret _ _ _ _ _ ⟨_, _, _, _, codeQ_of (by assumption) (by assumption) (by kernel_rfl), codeQ_of (by assumption) (by assumption) (by kernel_rfl), _, _, d9, ok9, rfl, rfl⟩ (by assumption) (by assumption) (by assumption) N7)
theorem done_again (w : World) (names : List Str) (hlen : names.length ≤ 3) (S : Str → Srt) (x0 : Str → Int) (wo : Int × Int) (rows : List RowA) (rest : Led) (hdA sd la wa : Addr) (oH oS lo : Obj) (kvsH kvsS : List (Str × Value)) (t1 u1 : Tok)
    (hH : oH.IsDictOf (strKind PRG w) kvsH) (hS : oS.IsDictOf (strKind PRG w) kvsS) (ok : HeldOk names x0 kvsH) (oks : SortsOk w rest names S kvsS) (hl : (la, lo) ∈ rest) (hs : SeqOf (rows.map fun r => Value.ref r.ra) lo)
    (hw : (wa, tup2 wo.1 wo.2 t1 u1) ∈ rest) (ow : PairOk wo) (ow6 : wo.2 ≤ 6) (hrows : ∀ r ∈ rows, RowAt rest names r)
    (c1 c2 : Addr) (oc1 oc2 : Obj) (hc1 : CodeQ oc1 "_law_done.<locals>.keep") (hc2 : CodeQ oc2 "_law_done.<locals>.<lambda>") (m1 : @Ne Nat c1 hdA) (m2 : @Ne Nat c2 hdA)
    (n1 : @Ne Nat hdA 179) (n2 : @Ne Nat sd 179) (n4 : @Ne Nat sd hdA) (n5 : ∀ p ∈ rest, p.1 ≠ hdA) :
    SpecT w (.ref 184) [.ref hdA, .ref sd, .ref la, .ref wa] 60 ((179, tabD c1 c2) :: (c1, oc1) :: (c2, oc2) :: (hdA, oH) :: (sd, oS) :: rest) (fun v news' => DoneR w names S x0 wo rows hdA sd oS rest c1 c2 oc1 oc2 v news') := by
  obtain ⟨vs1, tq1, hc1, hq1⟩ := hc1
  obtain ⟨vs2, tq2, hc2, hq2⟩ := hc2
  unfold SpecT; intro p loose mean mg mb dp un gd env outer A₀ base h₀ L m sh Q E hf hk G F N hd hu hret
  refine wpAny_call ?_
  k_dflt (refine' callTC ?G ?F ?N ?kA ?kF ?kK ?k6 ?k7 ?k8 ?k9 ?kB ?kD ?_ ?c2 ?c3 ?c4; (case kA => exact rfl); (case kF => exact hf); (case kK => exact hk); (case G => k_asm); (case F => k_asm); (case N => k_asm); (case k6 => k_is); (case k7 => k_is); (case k8 => (dsimp only [AA]; omega)); (case k9 => first | exact binds_K (by k_in) rfl (by k_is) rfl rfl rfl | exact BindsTo.of_eq rfl); (case kB => exact rfl); (case kD => decide +kernel); (case c2 => exact rfl); (case c3 => exact rfl); (case c4 => exact rfl); k_whole; intro g' L' h' tk' cells' FG' F' N' Y' G' l1; (try k_lt l1); (have B' := G'.B); (have X' := G'.X); (have T' := G'.T); (have XB' := G'.XB); (have TB' := G'.TB); (have D' := G'.D); k_cells Y'; (try simp only [List.cons_append, List.nil_append] at N'); (try dsimp only); (try (with_reducible show wpAny _ _ _ _ _ _)); (try k_fold))
  have C' : CodeHd g' 183 179 := codeHd_of_K X' (by kernel_rfl)
  skip
  k_steps
  rename Fr g' L' _ _ => FL
  rename News g' L' _ _ => NL
  refine SpecT.use (done_call w names hlen S x0 wo rows rest hdA sd la wa _ _ oH oS lo kvsH kvsS t1 u1 [_, _, _, _, _, _, _] hH ok oks hl hs hw ow ow6 hrows ?hn ?hk ?hnum ?hkeep) rfl rfl G' FL NL (by dsimp only [AA, Around.deeper]; omega) (by dsimp only [AA, Around.deeper]; omega) ?ret
  case hn => exact ⟨_, .head _, _, _, _, _, rfl⟩
  case hk => exact ⟨_, .tail _ (.head _), _, _, _, _, rfl⟩
  case hnum =>
    refine lam_genB ?_
    intro oX oY eX
    intro oH kvs I it qa nm k1 k2 xv t srt a0 hd hv hb hso hq hsv hsr
    dsimp only [List.cons_append, List.nil_append]
    clear NL FL G' hret N F
    have hsr' := hsr
    obtain ⟨x1, x2, x3, x4⟩ := hso
    obtain ⟨tS, uS, hsr⟩ := hsr
    refine mem_lam eX (fun hmX => ?_)
    clear eX
    unfold Spec; intro p loose mean mg mb dp un gd env outer A₀ base h₀ L m sh Q E hf hk B F X N T hd hu hret
    refine wpAny_call ?_
    k_dflt (refine' kla_code ?k1 ?k2 ?k3 ?k4 ?k5 ?kA ?kF ?kK ?k6 ?k7 ?k8 ?k9 ?kB ?_ ?c2 ?c3 ?c4 ?c5; (case kA => exact rfl); (case kF => exact hf); (case kK => exact hk); (case k1 => k_asm); (case k2 => k_asm); (case k3 => k_asm); (case k4 => k_asm); (case k5 => k_asm); (case k6 => k_mem); (case k7 => exact codeQ (by k_asm) (by k_mem) (by assumption) (by assumption) (by kernel_rfl)); (case k8 => (dsimp only [AA]; omega)); (case k9 => exact rfl); (case c5 => decide); (case kB => exact locs rfl); (case c2 => exact rfl); (case c3 => exact rfl); (case c4 => exact rfl); k_whole; intro g' L' h' FG' F' N' B' X' T'; (try dsimp only); (try k_lift B'); (try (with_reducible show wpAny _ _ _ _ _ _)); (try k_fold))
    skip
    k_steps
    all_goals (exact hret _ _ _ _ ⟨_, _, _, rfl, rfl⟩ (by k_asm) (by k_asm))
  case hkeep =>
    refine keep_genB ?_
    intro oX oY eY
    intro oH kvs I it qa nm k1 k2 xv t srt a0 told ta t3 u3 r hd hv hlen hso hq hsv hsr hb t0 t30 hI hta
    dsimp only [List.cons_append, List.nil_append]
    clear NL FL G' hret N F
    have hso' := hso
    have hsr' := hsr
    replace hI : @Ne Nat I hdA := hI
    replace hta : @Ne Nat ta hdA := hta
    obtain ⟨x1, x2, x3, x4⟩ := hso
    obtain ⟨tS, uS, hsr⟩ := hsr
    have hz : (10 : Int) ^ (told.2 + max 0 (-srt.p)).toNat ≠ 0 := ten_ne _
    refine mem_keepB eY (fun hmY => ?_)
    clear eY
    unfold Spec; intro p loose mean mg mb dp un gd env outer A₀ base h₀ L m sh Q E hf hk B F X N T hd hu hret
    refine wpAny_call ?_
    k_dflt (refine' code_nest ?k1 ?k2 ?k3 ?k4 ?k5 ?kA ?kF ?kK ?k6 ?k7 ?k8 ?k9 ?kB ?_ ?c2 ?c3 ?c4 ?c5; (case kA => exact rfl); (case kF => exact hf); (case kK => exact hk); (case k1 => k_asm); (case k2 => k_asm); (case k3 => k_asm); (case k4 => k_asm); (case k5 => k_asm); (case k6 => k_mem); (case k7 => exact codeQ (by k_asm) (by k_mem) (by assumption) (by assumption) (by kernel_rfl)); (case k8 => (dsimp only [AA]; omega)); (case k9 => exact BindsTo.of_eq rfl); (case c5 => decide); (case kB => exact locs rfl); (case c2 => exact rfl); (case c3 => exact rfl); (case c4 => exact rfl); k_whole; intro g' L' h' FG' F' N' B' X' T'; (try dsimp only); (try k_lift B'); (try (with_reducible show wpAny _ _ _ _ _ _)); (try k_fold))
    skip
    k_steps
    rename optV _ _ => e9
    cases hdue : dueP srt told r with
    | none =>
      have hdue' := hdue
      unfold dueP at hdue
      rw [hdue] at e9
      obtain rfl := e9
      k_steps
      all_goals (rename News _ _ _ _ => N8; rename Fr _ _ _ _ => F8; exact hret _ _ _ _ ⟨fun _ => ⟨rfl, rfl⟩, fun u h => (nomatch hdue'.symm.trans h)⟩ F8 (fun q hq => N8 q (.tail _ hq)))
    | some u9 =>
      have hdue' := hdue
      unfold dueP at hdue
      rw [hdue] at e9
      obtain ⟨k9, rfl⟩ := e9
      k_steps
      all_goals (rename News _ _ _ _ => N8; rename Fr _ _ _ _ => F8; rename Obj.IsDictOf _ _ (stored _ _ _) => d8; exact hret _ _ _ _ ⟨fun h => (nomatch hdue'.symm.trans h), fun u h => by cases hdue'.symm.trans h; exact ⟨rfl, _, _, d8, rfl⟩⟩ F8 (fun q hq => N8 q (.tail _ hq)))
  case ret =>
    intro r9 n9 h9 g9 tk9 R9 T9 G9 F9 N9
    obtain ⟨rfl, oH9, kvs9, rfl, d9, ok9⟩ := R9
    dsimp only [List.cons_append, List.nil_append] at N9
    have B9 := G9.B
    have X9 := G9.X
    have TT9 := G9.T
    k_steps
    all_goals (rename News _ _ _ _ => N8; exact hret _ _ _ _ _ ⟨_, _, d9, ok9, rfl, rfl⟩ (by assumption) (by assumption) (by assumption) (fun q hq => N8 q (.tail _ (.tail _ (.tail _ (.tail _ hq))))))
noncomputable def tsS : Str → Srt := fun _ => ⟨5, 2, false⟩
/-- a written row comes out as it says -/
noncomputable def TGood (u : Int) (wo : Int × Int) (r : Bool) (way : Way) (due : Int) (odd : Bool) : Prop :=
  (rowF tsS wo ⟨Str.ofString "A", r, way⟩ (fun _ => u)).1 = odd ∧ (rowF tsS wo ⟨Str.ofString "A", r, way⟩ (fun _ => u)).2 (Str.ofString "A") = due
noncomputable abbrev tupT (u : Int) (wa : Addr) (r : Bool) (way : Way) (due : Int) (odd : Bool) (k1 k2 k3 : Tok) : Obj := { cls := .type "tuple", data := .seq [Value.int u k1, Value.ref wa, Value.bool r, Value.str way.str k2, Value.int due k3, Value.bool odd].toArray }
structure TRow (bot : Led) (v : Value) (ra wa : Addr) (u : Int) (wo : Int × Int) (r : Bool) (way : Way) (due : Int) (odd : Bool) (k1 k2 k3 t1 t2 : Tok) : Prop where
  isV : v = .ref ra
  isRow : (ra, tupT u wa r way due odd k1 k2 k3) ∈ bot
  isWo : (wa, tup2 wo.1 wo.2 t1 t2) ∈ bot
  ok : PairOk wo
  ok6 : wo.2 ≤ 6
  bits : Bits u 30
  good : TGood u wo r way due odd
/-- a written row lies on the ledger; in passing style, so that the proof's term stays small -/
noncomputable def TRowC (bot : Led) (v : Value) : Prop := ∀ P : Prop, (∀ ra wa u wo r way due odd k1 k2 k3 t1 t2, TRow bot v ra wa u wo r way due odd k1 k2 k3 t1 t2 → P) → P
theorem TRowC.mono {bot bot' : Led} {v : Value} (h : TRowC bot v) (hs : ∀ q ∈ bot, q ∈ bot') : TRowC bot' v := fun P k => h P fun ra wa u wo r way due odd k1 k2 k3 t1 t2 x =>
  k ra wa u wo r way due odd k1 k2 k3 t1 t2 ⟨x.isV, hs _ x.isRow, hs _ x.isWo, x.ok, x.ok6, x.bits, x.good⟩
noncomputable def TKey (la : Addr) (vs : List Value) (lo : Obj) (bot : Led) : Prop :=
  SeqOf vs lo ∧ (la, lo) ∈ bot ∧ ∀ (i : Nat) v, vs[i]? = some v → TRowC bot v
/-- what is kept while the rows are written: a part of the ledger, and the rows -/
structure RowsIn (led keep : Led) (vs : List Value) : Prop where
  base : ∀ q ∈ keep, q ∈ led
  rows : ∀ v ∈ vs, TRowC led v
theorem RowsIn.mono {led led' keep : Led} {vs : List Value} (h : RowsIn led keep vs) (hs : ∀ q ∈ led, q ∈ led') : RowsIn led' keep vs := ⟨fun q hq => hs q (h.base q hq), fun v hv => (h.rows v hv).mono hs⟩
section
variable {prog : Program} {w : World} {A : Around} {E : Value → Shared → Prop} {s : Shared} {h₀ : Heap} {L : Addr} {m : Str → Option Value} {led keep : Led} {vs : List Value} {Q : Value → Shared → Prop}
theorem row_new (way : Way) {u due : Int} {wa : Addr} {wo : Int × Int} {r odd : Bool} {k1 k2 k3 t1 t2 : Tok} (F : Fr h₀ L s.heap m) (N : News h₀ L s.heap ((wa, tup2 wo.1 wo.2 t1 t2) :: led)) (acc : RowsIn led keep vs)
    (ok : PairOk wo) (ok6 : wo.2 ≤ 6) (bits : Bits u 30) (good : TGood u wo r way due odd)
    (h : ∀ ra h' led', Fr h₀ L h' m → News h₀ L h' led' → RowsIn led' keep (vs ++ [.ref ra]) → Q (.ref ra) { s with heap := h' }) :
    wpAny (model prog w) A (newTuple [Value.int u k1, Value.ref wa, Value.bool r, Value.str way.str k2, Value.int due k3, Value.bool odd]) Q E s :=
  kup_newTuple F N (fun D h' F' N' _ => h D h' _ F' N' ⟨fun q hq => .tail _ (.tail _ (acc.base q hq)), fun v hv => by
    rcases List.mem_append.mp hv with hv | hv
    · exact (acc.rows v hv).mono fun q hq => .tail _ (.tail _ hq)
    · rw [List.mem_singleton.mp hv]
      exact fun _ k => k _ _ _ wo _ way _ _ _ _ _ _ _ ⟨rfl, .head _, .tail _ (.head _), ok, ok6, bits, good⟩⟩) (by rw [sizeLine_eq]; show 6 ≤ 16777216; decide)
theorem row_newT (way : Way) {u due : Int} {wa : Addr} {wo : Int × Int} {r odd : Bool} {k1 k2 k3 t1 t2 : Tok} {q0 : Addr × Obj} (F : Fr h₀ L s.heap m) (N : News h₀ L s.heap ((wa, tup2 wo.1 wo.2 t1 t2) :: q0 :: led)) (acc : RowsIn led keep vs)
    (ok : PairOk wo) (ok6 : wo.2 ≤ 6) (bits : Bits u 30) (good : TGood u wo r way due odd)
    (h : ∀ ra h' led', Fr h₀ L h' m → News h₀ L h' led' → RowsIn led' (q0 :: keep) (vs ++ [.ref ra]) → Q (.ref ra) { s with heap := h' }) :
    wpAny (model prog w) A (newTuple [Value.int u k1, Value.ref wa, Value.bool r, Value.str way.str k2, Value.int due k3, Value.bool odd]) Q E s :=
  row_new way F N ⟨fun q hq => by
    rcases List.mem_cons.mp hq with rfl | hq
    · exact .head _
    · exact .tail _ (acc.base q hq), (acc.mono fun q hq => .tail _ hq).rows⟩ ok ok6 bits good h
theorem news_skip {h : Heap} {a b : Addr × Obj} (N : News h₀ L h (a :: b :: led)) : News h₀ L h (a :: led) := fun q hq => by
  rcases List.mem_cons.mp hq with rfl | hq
  · exact N _ (.head _)
  · exact N _ (.tail _ (.tail _ hq))
theorem table_frame {P : Prop} {h : Heap} {la : Addr} {lo : Obj} {pre rest : Led} {q1 q2 q3 : Addr × Obj} (N : News h₀ L h (pre ++ led)) (acc : RowsIn led keep vs) (hb : ∀ q ∈ q1 :: q2 :: q3 :: rest, q ∈ keep) (hs : SeqOf vs lo) (hl : (la, lo) ∈ pre ++ led)
    (k : ∀ bot, (∀ q ∈ rest, q ∈ bot) → TKey la vs lo bot → News h₀ L h (q1 :: q2 :: q3 :: bot) → P) : P := by
  have acc' : RowsIn (pre ++ led) keep vs := acc.mono fun q hq => List.mem_append_right _ hq
  refine k (pre ++ led) (fun q hq => acc'.base q (hb q (.tail _ (.tail _ (.tail _ hq))))) ⟨hs, hl, fun i v hv => acc'.rows v (List.mem_of_getElem? hv)⟩ (fun q hq => N q ?_)
  rcases List.mem_cons.mp hq with rfl | hq
  · exact acc'.base _ (hb _ (.head _))
  · rcases List.mem_cons.mp hq with rfl | hq
    · exact acc'.base _ (hb _ (.tail _ (.head _)))
    · rcases List.mem_cons.mp hq with rfl | hq
      · exact acc'.base _ (hb _ (.tail _ (.tail _ (.head _))))
      · exact hq
end
theorem SpecT.sub {w : World} {fv : Value} {vs : List Value} {cost : Nat} {news led : Led} {R : Value → Led → Prop} (S : SpecT w fv vs cost news R) (hs : ∀ q ∈ news, q ∈ led) : SpecT w fv vs cost led R := by
  unfold SpecT
  intro p loose mean mg mb dp un gd env outer A₀ base h₀ L m s Q E hf hk G F N hd hu hret
  exact S.use hf hk G F (fun q hq => N q (hs q hq)) hd hu hret
theorem done_one {w : World} {u : Int} {wo : Int × Int} {r : Bool} {way : Way} {due : Int} {odd : Bool} {bot : Led} {I la ra qa sa sd hdA wa c1 c2 : Addr} {it oS oH oc1 oc2 : Obj} {k0 k2 kq1 kq2 ks1 ks2 t1 t2 : Tok}
    (hH : oH.IsDictOf (strKind PRG w) [(Str.ofString "A", Value.int u k0)]) (hS : oS.IsDictOf (strKind PRG w) [(Str.ofString "A", Value.ref sa)]) (hc1 : CodeQ oc1 "_law_done.<locals>.keep") (hc2 : CodeQ oc2 "_law_done.<locals>.<lambda>")
    (hw : (wa, tup2 wo.1 wo.2 t1 t2) ∈ bot) (ow : PairOk wo) (ow6 : wo.2 ≤ 6) (hu3 : Bits u 30) (hg : TGood u wo r way due odd)
    (hap : ∀ p ∈ (I, it) :: (179, tabD c1 c2) :: (c1, oc1) :: (c2, oc2) :: bot, p.1 ≠ hdA)
    (a1 : @Ne Nat la hdA) (a2 : @Ne Nat ra hdA) (a3 : @Ne Nat qa hdA) (a4 : @Ne Nat sa hdA) (a5 : @Ne Nat sd hdA) (a6 : @Ne Nat sd 179) :
    SpecT w (.ref 184) [.ref hdA, .ref sd, .ref la, .ref wa] 60 ((la, { cls := .type "tuple", data := .seq #[Value.ref ra] }) :: (ra, tupR qa r way k2) :: (qa, tupQ (Str.ofString "A") kq1 kq2) :: (sa, tupS ⟨5, 2, false⟩ ks1 ks2) :: (sd, oS) :: (hdA, oH) :: (I, it) :: (179, tabD c1 c2) :: (c1, oc1) :: (c2, oc2) :: bot)
      (fun v n => ∃ oH' kvs' t, v = .bool odd ∧ oH'.IsDictOf (strKind PRG w) kvs' ∧ valueAt kvs' (Str.ofString "A") = some (.int due t) ∧ n = (179, tabD c1 c2) :: (c1, oc1) :: (c2, oc2) :: (hdA, oH') :: (sd, oS) :: (la, { cls := .type "tuple", data := .seq #[Value.ref ra] }) :: (ra, tupR qa r way k2) :: (qa, tupQ (Str.ofString "A") kq1 kq2) :: (sa, tupS ⟨5, 2, false⟩ ks1 ks2) :: (I, it) :: bot) := by
  have hh : HeldOk [Str.ofString "A"] (fun _ => u) [(Str.ofString "A", Value.int u k0)] := ⟨rfl, fun nm hn => ⟨k0, by rw [List.mem_singleton.mp hn]; rfl⟩, fun _ _ => hu3⟩
  have e179 : @Ne Nat hdA 179 := Ne.symm (hap _ (.tail _ (.head _)))
  have ec1 : @Ne Nat c1 hdA := hap _ (.tail _ (.tail _ (.head _)))
  have ec2 : @Ne Nat c2 hdA := hap _ (.tail _ (.tail _ (.tail _ (.head _))))
  refine SpecT.mono (SpecT.sub (done_again w [Str.ofString "A"] (by decide) tsS (fun _ => u) wo [⟨ra, qa, ⟨Str.ofString "A", r, way⟩, k2, kq1, kq2⟩]
    ((la, { cls := .type "tuple", data := .seq #[Value.ref ra] }) :: (ra, tupR qa r way k2) :: (qa, tupQ (Str.ofString "A") kq1 kq2) :: (sa, tupS ⟨5, 2, false⟩ ks1 ks2) :: (I, it) :: bot)
    hdA sd la wa oH oS _ _ _ t1 t2 hH hS hh ?oks (.head _) SeqOf.tup (.tail _ (.tail _ (.tail _ (.tail _ (.tail _ hw))))) ow ow6 ?rows c1 c2 oc1 oc2 hc1 hc2 ec1 ec2 e179 a6 a5 ?n5) ?sub) ?fin
  case oks =>
    refine ⟨fun nm hn => ⟨sa, by rw [List.mem_singleton.mp hn]; rfl, ks1, ks2, .inl (.tail _ (.tail _ (.tail _ (.head _))))⟩, fun nm _ => ⟨(by show (0 : Int) ≤ 5; decide), (by show (5 : Int) ≤ 6; decide), (by show (-4 : Int) ≤ 2; decide), (by show (2 : Int) ≤ 4; decide)⟩⟩
  case rows =>
    intro x hx
    rw [List.mem_singleton.mp hx]
    exact ⟨.tail _ (.head _), .tail _ (.tail _ (.head _)), .head _⟩
  case n5 =>
    intro p hp
    rcases List.mem_cons.mp hp with rfl | hp
    · exact a1
    rcases List.mem_cons.mp hp with rfl | hp
    · exact a2
    rcases List.mem_cons.mp hp with rfl | hp
    · exact a3
    rcases List.mem_cons.mp hp with rfl | hp
    · exact a4
    rcases List.mem_cons.mp hp with rfl | hp
    · exact hap _ (.head _)
    exact hap _ (.tail _ (.tail _ (.tail _ (.tail _ hp))))
  case sub =>
    intro q hq
    rcases List.mem_cons.mp hq with rfl | hq
    · exact .tail _ (.tail _ (.tail _ (.tail _ (.tail _ (.tail _ (.tail _ (.head _)))))))
    rcases List.mem_cons.mp hq with rfl | hq
    · exact .tail _ (.tail _ (.tail _ (.tail _ (.tail _ (.tail _ (.tail _ (.tail _ (.head _))))))))
    rcases List.mem_cons.mp hq with rfl | hq
    · exact .tail _ (.tail _ (.tail _ (.tail _ (.tail _ (.tail _ (.tail _ (.tail _ (.tail _ (.head _)))))))))
    rcases List.mem_cons.mp hq with rfl | hq
    · exact .tail _ (.tail _ (.tail _ (.tail _ (.tail _ (.head _)))))
    rcases List.mem_cons.mp hq with rfl | hq
    · exact .tail _ (.tail _ (.tail _ (.tail _ (.head _))))
    rcases List.mem_cons.mp hq with rfl | hq
    · exact .head _
    rcases List.mem_cons.mp hq with rfl | hq
    · exact .tail _ (.head _)
    rcases List.mem_cons.mp hq with rfl | hq
    · exact .tail _ (.tail _ (.head _))
    rcases List.mem_cons.mp hq with rfl | hq
    · exact .tail _ (.tail _ (.tail _ (.head _)))
    rcases List.mem_cons.mp hq with rfl | hq
    · exact .tail _ (.tail _ (.tail _ (.tail _ (.tail _ (.tail _ (.head _))))))
    exact .tail _ (.tail _ (.tail _ (.tail _ (.tail _ (.tail _ (.tail _ (.tail _ (.tail _ (.tail _ hq)))))))))
  case fin =>
    rintro v n ⟨oH', kvs', hd, ok, rfl, rfl⟩
    obtain ⟨t, ht⟩ := ok.vals _ (.head _)
    refine ⟨oH', kvs', t, congrArg Value.bool ?_, hd, ht.trans (congrArg (fun z => some (Value.int z t)) hg.2), rfl⟩
    show (false || (rowF tsS wo ⟨Str.ofString "A", r, way⟩ (fun _ => u)).1) = odd
    rw [Bool.false_or]
    exact hg.1
example : True := by
  k_with "exec For Tuple Name cons nil" => (k_here; (with_reducible show wpAny _ _ (exec (Stmt.For (Expr.Tuple _ _ _) (Expr.Name (PySem.Str.ofString "rows") _) _ _ _) _) _ _ _); k_dflt (refine wpAny_For ?_))
  trivial
example : True := by
  k_with "eval Dict" => (k_here; (with_reducible show wpAny _ _ (eval (Expr.Dict _ [Expr.Tuple _ _ _] _) _) _ _ _); k_dflt (refine' kdn_str ?kw_q ?kw_F ?kw_N ?kw_b ?kw_a ?kw_l ?kw_e ?kw_n ?_; (case kw_q => rfl); (case kw_F => k_asm); (case kw_N => k_asm); (case kw_b => exact Top.nolimit (by k_asm)); (case kw_a => rfl); (case kw_l => rfl); (case kw_e => exact List.cons_ne_nil _ _); (case kw_n => exact Nat.le_of_ble_eq_true rfl)); intro d' h' o' F' N' l1 lo' hd'; (try k_lt l1))
  trivial
local macro_rules | `(tactic| k_mem) => `(tactic| (apply List.mem_cons_of_mem; exact RowsIn.base (by assumption) _ (.head _)))
theorem table_spec (w : World) (rest : Led) (c1 c2 : Addr) (oc1 oc2 : Obj) (hc1 : CodeQ oc1 "_law_done.<locals>.keep") (hc2 : CodeQ oc2 "_law_done.<locals>.<lambda>") :
    SpecT w (.ref 191) [] 80 ((179, tabD c1 c2) :: (c1, oc1) :: (c2, oc2) :: rest) (fun v news' => v = .bool true ∧ news' = (179, tabD c1 c2) :: (c1, oc1) :: (c2, oc2) :: rest) := by
  unfold SpecT; intro p loose mean mg mb dp un gd env outer A₀ base h₀ L m sh Q E hf hk G F N hd hu hret
  refine wpAny_call ?_
  k_dflt (refine' callT ?G ?F ?N ?kA ?kF ?kK ?k6 ?k7 ?k8 ?k9 ?kB ?_ ?c2 ?c3 ?c4 ?c5; (case kA => exact rfl); (case kF => exact hf); (case kK => exact hk); (case G => k_asm); (case F => k_asm); (case N => k_asm); (case k6 => k_is); (case k7 => k_is); (case k8 => (dsimp only [AA]; omega)); (case k9 => first | exact binds_K (by k_in) rfl (by k_is) rfl rfl rfl | exact BindsTo.of_eq rfl); (case c5 => decide); (case kB => exact locs rfl); (case c2 => exact rfl); (case c3 => exact rfl); (case c4 => exact rfl); k_whole; intro g' L' h' FG' F' N' G'; (have B' := G'.B); (have X' := G'.X); (have T' := G'.T); (have XB' := G'.XB); (have TB' := G'.TB); (have D' := G'.D); (try dsimp only); (try (with_reducible show wpAny _ _ _ _ _ _)); (try k_fold))
  have acc0 : RowsIn ((179, tabD c1 c2) :: (c1, oc1) :: (c2, oc2) :: rest) ((179, tabD c1 c2) :: (c1, oc1) :: (c2, oc2) :: rest) [] := ⟨fun _ h => h, fun _ h => nomatch h⟩
  (k_with "newTuple" => (k_here; (with_reducible show wpAny _ _ (newTuple [Value.int _ _, Value.ref _, Value.bool _, Value.str _ _, Value.int _ _, Value.bool _]) _ _ _); k_dflt (first | (refine' row_new .put (wo := (_, _)) ?kw_F ?kw_N ?kw_acc ?kw_ok ?kw_ok6 ?kw_bits ?kw_good ?_; (case kw_F => k_asm); (case kw_N => assumption); (case kw_acc => assumption); (case kw_ok => exact ⟨(by decide +kernel), (by decide), (by decide)⟩); (case kw_ok6 => decide); (case kw_bits => decide +kernel); (case kw_good => (unfold TGood; decide +kernel))) | (refine' row_new .add (wo := (_, _)) ?kw_F ?kw_N ?kw_acc ?kw_ok ?kw_ok6 ?kw_bits ?kw_good ?_; (case kw_F => k_asm); (case kw_N => assumption); (case kw_acc => assumption); (case kw_ok => exact ⟨(by decide +kernel), (by decide), (by decide)⟩); (case kw_ok6 => decide); (case kw_bits => decide +kernel); (case kw_good => (unfold TGood; decide +kernel))) | (refine' row_new .sub (wo := (_, _)) ?kw_F ?kw_N ?kw_acc ?kw_ok ?kw_ok6 ?kw_bits ?kw_good ?_; (case kw_F => k_asm); (case kw_N => assumption); (case kw_acc => assumption); (case kw_ok => exact ⟨(by decide +kernel), (by decide), (by decide)⟩); (case kw_ok6 => decide); (case kw_bits => decide +kernel); (case kw_good => (unfold TGood; decide +kernel))) | (refine' row_new .mul (wo := (_, _)) ?kw_F ?kw_N ?kw_acc ?kw_ok ?kw_ok6 ?kw_bits ?kw_good ?_; (case kw_F => k_asm); (case kw_N => assumption); (case kw_acc => assumption); (case kw_ok => exact ⟨(by decide +kernel), (by decide), (by decide)⟩); (case kw_ok6 => decide); (case kw_bits => decide +kernel); (case kw_good => (unfold TGood; decide +kernel))) | (refine' row_new .div (wo := (_, _)) ?kw_F ?kw_N ?kw_acc ?kw_ok ?kw_ok6 ?kw_bits ?kw_good ?_; (case kw_F => k_asm); (case kw_N => assumption); (case kw_acc => assumption); (case kw_ok => exact ⟨(by decide +kernel), (by decide), (by decide)⟩); (case kw_ok6 => decide); (case kw_bits => decide +kernel); (case kw_good => (unfold TGood; decide +kernel))) | (refine' row_newT .put (wo := (_, _)) ?kw_F ?kw_N ?kw_acc ?kw_ok ?kw_ok6 ?kw_bits ?kw_good ?_; (case kw_F => k_asm); (case kw_N => assumption); (case kw_acc => assumption); (case kw_ok => exact ⟨(by decide +kernel), (by decide), (by decide)⟩); (case kw_ok6 => decide); (case kw_bits => decide +kernel); (case kw_good => (unfold TGood; decide +kernel))) | (refine' row_newT .add (wo := (_, _)) ?kw_F ?kw_N ?kw_acc ?kw_ok ?kw_ok6 ?kw_bits ?kw_good ?_; (case kw_F => k_asm); (case kw_N => assumption); (case kw_acc => assumption); (case kw_ok => exact ⟨(by decide +kernel), (by decide), (by decide)⟩); (case kw_ok6 => decide); (case kw_bits => decide +kernel); (case kw_good => (unfold TGood; decide +kernel))) | (refine' row_newT .sub (wo := (_, _)) ?kw_F ?kw_N ?kw_acc ?kw_ok ?kw_ok6 ?kw_bits ?kw_good ?_; (case kw_F => k_asm); (case kw_N => assumption); (case kw_acc => assumption); (case kw_ok => exact ⟨(by decide +kernel), (by decide), (by decide)⟩); (case kw_ok6 => decide); (case kw_bits => decide +kernel); (case kw_good => (unfold TGood; decide +kernel))) | (refine' row_newT .mul (wo := (_, _)) ?kw_F ?kw_N ?kw_acc ?kw_ok ?kw_ok6 ?kw_bits ?kw_good ?_; (case kw_F => k_asm); (case kw_N => assumption); (case kw_acc => assumption); (case kw_ok => exact ⟨(by decide +kernel), (by decide), (by decide)⟩); (case kw_ok6 => decide); (case kw_bits => decide +kernel); (case kw_good => (unfold TGood; decide +kernel))) | (refine' row_newT .div (wo := (_, _)) ?kw_F ?kw_N ?kw_acc ?kw_ok ?kw_ok6 ?kw_bits ?kw_good ?_; (case kw_F => k_asm); (case kw_N => assumption); (case kw_acc => assumption); (case kw_ok => exact ⟨(by decide +kernel), (by decide), (by decide)⟩); (case kw_ok6 => decide); (case kw_bits => decide +kernel); (case kw_good => (unfold TGood; decide +kernel)))); intro ra9 h9 led9 F9 N9 acc9; (try k_sweep); (try dsimp only); (try (with_reducible show wpAny _ _ _ _ _ _)); (try k_fold)))
  (k_with "binaryOp Add ref ref" => (k_here; (rename RowsIn _ _ _ => acc8); k_dflt (refine' kde_addT ?kw_k1 ?kw_k2 ?kw_k3 ?kw_k4 ?kw_k5 ?kw_k6 ?kw_k7 ?kw_k8 ?_; (case kw_k1 => k_asm); (case kw_k2 => k_asm); (case kw_k3 => exact News.isTup (by k_asm) (by k_mem)); (case kw_k4 => exact News.isTup (by k_asm) (by k_mem)); (case kw_k5 => exact List.cons_ne_nil _ _); (case kw_k6 => exact List.cons_ne_nil _ _); (case kw_k7 => exact Nat.le_of_ble_eq_true rfl); (case kw_k8 => kun_lit); k_whole); intro D9 h9 F9 N9 l9; (replace N9 := news_skip N9); (try k_sweep); (try dsimp only)))
  k_steps
  rename Fr g' L' _ _ => FL
  rename News g' L' _ _ => NL
  revert FL
  generalize hmm : (fun y => if y = PySem.Str.ofString "rows" then _ else _) = mm
  intro FL
  refine table_frame (pre := [_]) NL (by assumption) (q1 := (179, tabD c1 c2)) (q2 := (c1, oc1)) (q3 := (c2, oc2)) (rest := rest) (by intro q hq; exact .tail _ (.tail _ hq)) SeqOf.tup (.head _) ?_
  intro bot hrest hkey NB
  obtain ⟨hs, hla, hrow⟩ := hkey
  refine loopG (L := L') (g₀ := g') (J := fun i m led => led = (179, tabD c1 c2) :: (c1, oc1) :: (c2, oc2) :: bot) rfl hs KtsTurn.refl G' FL NB rfl ?hla ?turn ?fin ?hE
  case hla =>
    rintro i m' led' rfl
    exact .tail _ (.tail _ (.tail _ hla))
  case hE => passes_own
  case fin =>
    rintro g2 h2 tk2 m2 led2 rfl T2 G2 F2 N2
    have B2 := G2.B
    have X2 := G2.X
    have TT2 := G2.T
    dsimp only
    k_steps
    all_goals (rename News _ _ _ _ => kN; exact hret _ _ _ _ _ ⟨rfl, rfl⟩ (by assumption) (by assumption) (by assumption) (fun q hq => kN q (by rcases List.mem_cons.mp hq with rfl | hq; exact .head _; rcases List.mem_cons.mp hq with rfl | hq; exact .tail _ (.head _); rcases List.mem_cons.mp hq with rfl | hq; exact .tail _ (.tail _ (.head _)); exact .tail _ (.tail _ (.tail _ (hrest q hq))))))
  case turn =>
    rintro i v g2 h2 tk2 m2 led2 I it hv rfl T2 G2 F2 N2 nI
    refine hrow i v hv _ ?_
    clear hrow hv
    rintro ra wa u wo r way due odd k1 k2 k3 t1 t2 ⟨rfl, hr, hw, ow, ow6, hu3, hg⟩
    have B2 := G2.B
    have X2 := G2.X
    have TT2 := G2.T
    (try dsimp only)
    (try (with_reducible show wpAny _ _ _ _ _ _))
    (try k_fold)
    (k_with "call ref" => (k_dflt (refine' SpecT.use (done_one ?p1 ?p2 hc1 hc2 hw ow ow6 hu3 hg ?p3 ?p4 ?p5 ?p6 ?p7 ?p8 ?p9) ?hf ?hk ?G ?F ?N ?hd ?hu ?_; (case hf => exact rfl); (case hk => exact rfl); (case G => k_asm); (case F => k_asm); (case N => k_asm); (case p1 => assumption); (case p2 => assumption); (case p3 => assumption); (case p4 => k_ne); (case p5 => k_ne); (case p6 => k_ne); (case p7 => k_ne); (case p8 => k_ne); (case p9 => k_ne); (case hd => first | (dsimp only [AA, Around.deeper]; omega) | decide +kernel); (case hu => first | (dsimp only [AA, Around.deeper]; omega) | decide +kernel); k_whole; intro r9 n9 h9 g9 tk9 R9 T9 G9 F9 N9; (have B9 := G9.B); (have X9 := G9.X); (have TT9 := G9.T); (have D9 := G9.D); obtain ⟨oH9, kvs9, tv9, e8, d9, v9, e9⟩ := R9; replace e8 := Eq.symm e8; replace e9 := Eq.symm e9; subst e8 e9; (try dsimp only); (try (with_reducible show wpAny _ _ _ _ _ _)); (try k_fold))))
    k_steps
    all_goals (first
      | (exfalso; rename (odd != odd) = true => q; rw [bne_self_eq_false] at q; cases q)
      | exact absurd rfl (by assumption : due ≠ due)
      | exact ⟨rfl, g9, h9, _, _, _, rfl, KtsTurn.trans T2 T9, G9, F9, (fun q hq => N9 q (by rcases List.mem_cons.mp hq with rfl | hq; exact .tail _ (.tail _ (.tail _ (.tail _ (.tail _ (.tail _ (.tail _ (.tail _ (.tail _ (.head _))))))))); rcases List.mem_cons.mp hq with rfl | hq; exact .head _; rcases List.mem_cons.mp hq with rfl | hq; exact .tail _ (.head _); rcases List.mem_cons.mp hq with rfl | hq; exact .tail _ (.tail _ (.head _)); exact .tail _ (.tail _ (.tail _ (.tail _ (.tail _ (.tail _ (.tail _ (.tail _ (.tail _ (.tail _ hq))))))))))), nI, rfl⟩)
theorem fr_back {g g' h : Heap} {L : Addr} {m : Str → Option Value} (T : KtsTurn [] g g') (F : Fr g' L h m) : Fr g L h m :=
  ⟨F.ns, fun b o e => F.keep b o (T.other b o e (fun q => nomatch q)), by rw [← T.size]; exact F.above⟩
theorem news_back {g g' h : Heap} {L : Addr} {led : Led} (T : KtsTurn [] g g') (N : News g' L h led) : News g L h led := fun q hq => ⟨(N q hq).1, (N q hq).2.1, by
  cases z : g.get? q.1 with
  | none => rfl
  | some o => have := T.other _ o z (fun q => nomatch q); rw [(N q hq).2.2] at this; cases this⟩
/-- a call at the outermost frame: the ground stays -/
theorem SpecT.top {w : World} {fv : Value} {vs : List Value} {cost : Nat} {news : Led} {R : Value → Led → Prop}
    {p : Program} {loose : List Str} {mean : ExcName → Option Value} {mg mb : Str → Option Value} {dp un : Nat} {gd : Option (List Code)} {env : Env} {A₀ : Around} {h₀ : Heap} {L : Addr} {m : Str → Option Value} {s : Shared} {Q E : Value → Shared → Prop}
    (S : SpecT w fv vs cost news R) (hf : env.frame = some L) (hk : env.scope.kind = .function) (B : Below A₀ h₀ [] h₀) (X : (hd.heap_39 w.params).In h₀) (T : Top p loose mean mg mb h₀)
    (F : Fr h₀ L s.heap m) (N : News h₀ L s.heap news) (hd : dp + cost < recursionLimit) (hu : un + 8 * cost < cLine)
    (ret : ∀ r news' h' tk', R r news' → Fr h₀ L h' m → News h₀ L h' news' → Q r { s with heap := h', toks := tk' }) :
    wpAny (model PRG w) (AA dp un gd env []) (call fv vs) Q E s :=
  S.use hf hk ⟨B, X, T, X, T, ktsDicts_nil⟩ F N hd hu fun r news' h' _ tk' hR T' _ F' N' => ret r news' h' tk' hR (fr_back T' F') (news_back T' N')

theorem takeD_lt {ns : List Int} {many : Int} (ok : PoolOk ns) (hm : 0 < many) : 0 ≤ takeD ns many ∧ takeD ns many < many := by
  cases ns with
  | nil => exact ⟨Int.le_refl _, hm⟩
  | cons x r => exact ⟨Int.fmod_nonneg_of_pos x hm, Int.fmod_lt_of_pos x hm⟩
theorem takeL_ok {ns : List Int} {many : Int} (ok : PoolOk ns) (hm : 0 < many) : PoolOk (takeL ns many) := by
  cases ns with
  | nil => exact ok
  | cons x r =>
    have h1 : PoolOk r := ⟨by have := ok.len; simp only [List.length_cons] at this; omega, fun y hy => ok.lo y (.tail _ hy), fun y hy => ok.bits y (.tail _ hy)⟩
    show PoolOk (if x.fdiv many = 0 then r else x.fdiv many :: r)
    by_cases hz : x.fdiv many = 0
    · rw [if_pos hz]; exact h1
    · rw [if_neg hz]
      refine ⟨by have := ok.len; simpa using this, fun y hy => ?_, fun y hy => ?_⟩
      · rcases List.mem_cons.mp hy with rfl | hy
        · exact Int.fdiv_nonneg (ok.lo x (.head _)) (Int.le_of_lt hm)
        · exact h1.lo y hy
      · rcases List.mem_cons.mp hy with rfl | hy
        · exact bits_fdiv (ok.bits x (.head _))
        · exact h1.bits y hy
/-- the pool, some digits -/
noncomputable def PoolAt (vs : List Value) : Prop := ∃ ns, IntsAre vs ns ∧ PoolOk ns
theorem take_at {w : World} {led : Led} {g : Obj → Led} {pa : Addr} {vs : List Value} {n : Nat} {many : Int} {k : Tok} (U : UpdF pa (listO vs n) led g) (hp : PoolAt vs) (hm : 0 < many) (hmb : Bits many 9000) :
    Spec w (.ref 156) [.ref pa, .int many k] 3 led (fun v news' => ∃ vs' n' k' d, v = .int d k' ∧ 0 ≤ d ∧ d < many ∧ PoolAt vs' ∧ news' = g (listO vs' n')) := by
  obtain ⟨ns, hi, ok⟩ := hp
  obtain ⟨pre, post, rfl, hg, a, b⟩ := U.split
  unfold Spec
  intro p loose mean mg mb dp un gd env outer A₀ base h₀ L m s Q E hf hk B F X N T hd hu hret
  refine (take_spec w (pre ++ post) pa vs ns n many k hi (fun q hq => (List.mem_append.mp hq).elim (a q) (b q)) ok hm hmb).use hf hk B F X (fun q hq => N q ?_) T hd hu ?_
  · rcases List.mem_cons.mp hq with rfl | hq
    · exact List.mem_append_right _ (.head _)
    · exact (List.mem_append.mp hq).elim (fun h => List.mem_append_left _ h) (fun h => List.mem_append_right _ (.tail _ h))
  · rintro r news' h' tk' ⟨vs', n', k', hi', rfl, rfl⟩ F' N'
    obtain ⟨d0, d1⟩ := takeD_lt ok hm
    refine hret _ _ h' tk' ⟨vs', n', k', _, rfl, d0, d1, ⟨_, hi', takeL_ok ok hm⟩, rfl⟩ F' ?_
    rw [hg]
    intro q hq
    refine N' q ?_
    rcases List.mem_append.mp hq with h | h
    · exact .tail _ (List.mem_append_left _ h)
    · rcases List.mem_cons.mp h with rfl | h
      · exact .head _
      · exact .tail _ (List.mem_append_right _ h)

section
variable {w : World} {A : Around} {h₀ : Heap} {env : Env} {L : Addr}
inductive LoopEndC (h₀ : Heap) (L I : Addr) (it : Obj) (Jn : (Str → Option Value) → Led → Prop) (sh : Heap → Nat → Shared) (f : Flow) (s' : Shared) : Prop
  | mk (e : f = .next) (h' : Heap) (tk : Nat) (m' : Str → Option Value) (led' : Led) (e' : s' = sh h' tk) (F : Fr h₀ L h' m') (N : News h₀ L h' ((I, it) :: led')) (nI : ∀ q ∈ led', q.1 ≠ I) (j : Jn m' led') : LoopEndC h₀ L I it Jn sh f s'
noncomputable def LoopEndF (h₀ : Heap) (L I : Addr) (it : Obj) (Jn : (Str → Option Value) → Led → Prop) (s : Shared) (f : Flow) (s' : Shared) : Prop := LoopEndC h₀ L I it Jn (fun h tk => { s with heap := h, toks := tk }) f s'
inductive InvF (h₀ : Heap) (L I : Addr) (J : Nat → (Str → Option Value) → Led → Prop) (St : Nat → Heap → Prop) (n : Nat) (s : Shared) (k : Nat) (s' : Shared) : Prop
  | mk (h' : Heap) (tk : Nat) (m' : Str → Option Value) (led' : Led) (i : Nat) (it : Obj) (e' : s' = { s with heap := h', toks := tk }) (F : Fr h₀ L h' m') (N : News h₀ L h' ((I, it) :: led')) (nI : ∀ q ∈ led', q.1 ≠ I) (st : St i h') (j : J i m' led') (hi : i ≤ n) (ek : k = n + 1 - i) : InvF h₀ L I J St n s k s'
/-- a for-loop over a fixed ground -/
theorem loopF {I : Addr} {fp : List Addr} {n : Nat} {P : Nat → Value → Prop} {St : Nat → Heap → Prop} {it₀ : Obj} {x : Str} {px : Pos} {body : List Stmt} {Q : Flow → Shared → Prop} {E : Value → Shared → Prop} {s : Shared} {m : Str → Option Value} {led : Led}
    (J : Nat → (Str → Option Value) → Led → Prop) (W : Walks PRG w A I fp [I] n P St) (hSt : ∀ i h, St i h → ∃ it, h.get? I = some it)
    (hfp : ∀ b ∈ fp, b = I ∨ ∃ o, ∀ i m led, J i m led → (b, o) ∈ led) (hx : env.kindOf x = some .local) (hL : env.locals = L)
    (hp : (env.scope.kind == .class || (env.scope.kind == .module && env.locals != env.globals)) = false)
    (st : St 0 s.heap) (F : Fr h₀ L s.heap m) (N : News h₀ L s.heap ((I, it₀) :: led)) (nI : ∀ q ∈ led, q.1 ≠ I) (h0 : J 0 m led)
    (turn : ∀ i v h' tk m' led' it, i < n → P i v → J i m' led' → Fr h₀ L h' (fun y => if y = x then some v else m' y) → News h₀ L h' ((I, it) :: led') → (∀ q ∈ led', q.1 ≠ I) →
      wpAny (model PRG w) A (execs body env) (LoopEndF h₀ L I it (J (i + 1)) s) E { s with heap := h', toks := tk })
    (fin : ∀ h' tk m' led', J n m' led' → Fr h₀ L h' m' → News h₀ L h' led' → Q .next { s with heap := h', toks := tk })
    (hE : PassesOwn (model PRG w) A env E) :
    codeAny (model PRG w) A (.forLoop (.Name x px) (.ref I) body [] env) (fun r s' => match r with | .ok f => Q f s' | .error e => cameBackBy (model PRG w) A env E e s') s := by
  have hLI : L ≠ I := Ne.symm (N _ (.head _)).2.1
  have hI0 : h₀.get? I = none := (N _ (.head _)).2.2
  refine codeAny_forLoop (InvF h₀ L I J St n s) ?_ (n + 1)
    ⟨_, s.toks, m, led, 0, it₀, rfl, F, N, nI, st, h0, Nat.zero_le _, rfl⟩
  rintro k s' ⟨h', tk, m', led', i, it, rfl, F', N', nI', st', hJ, hi, rfl⟩
  have nxt : ∀ h₁ : Heap, (∀ b o, b ∉ [I] → h'.get? b = some o → h₁.get? b = some o) → Fr h₀ L h₁ m' ∧ News h₀ L h₁ led' := fun h₁ hk₁ =>
    ⟨⟨F'.ns.at' fun o e => hk₁ _ o (fun z => hLI (List.mem_singleton.mp z)) e, fun b o e => hk₁ b o (fun z => by rw [List.mem_singleton.mp z, hI0] at e; cases e) (F'.keep b o e), F'.above⟩,
      fun q hq => ⟨hk₁ _ _ (fun z => nI' q hq (List.mem_singleton.mp z)) (N' q (.tail _ hq)).1, (N' q (.tail _ hq)).2⟩⟩
  by_cases hlt : i < n
  · refine W.item i _ _ _ hlt st' fun v h₁ tk₁ hv st₁ hk₁ => ?_
    obtain ⟨F₁, N₁⟩ := nxt h₁ hk₁
    subst hL
    refine wpAny_assign_Name (wpAny_storeName_local hx F₁.ns (fun h₂ hn₂ hs₂ => ?_) hp)
    obtain ⟨it₂, hit₂⟩ := hSt _ _ st₁
    have N₂ : News h₀ env.locals h₂ ((I, it₂) :: led') := fun q hq => by
      rcases List.mem_cons.mp hq with rfl | hq
      · exact ⟨(hs₂.2 I (Ne.symm hLI)).trans hit₂, Ne.symm hLI, hI0⟩
      · exact N₁.set hs₂ q hq
    refine wpAny_passesOwn hE (wpAny_mono (turn i v h₂ _ m' led' it₂ hlt hv hJ (F₁.set hn₂ hs₂) N₂ nI') (fun f s₃ h₃ => ?_) fun _ _ e => e)
    obtain ⟨rfl, h₃', tk₃, m₃, led₃, rfl, F₃, N₃, n₃, J₃⟩ := h₃
    refine ⟨n + 1 - (i + 1), by omega, h₃', tk₃, m₃, led₃, i + 1, it₂, rfl, F₃, N₃, n₃, ?_, J₃, hlt, rfl⟩
    have old : ∀ b ∈ fp, b ≠ env.locals := fun b hb e => by
      rcases hfp b hb with rfl | ⟨o, ho⟩
      · exact hLI e.symm
      · exact (N₁ _ (ho _ _ _ hJ)).2.1 e
    have st₂ := W.frame _ _ h₂ st₁ (fun b hb o e => (hs₂.2 b (old b hb)).trans e)
    refine W.frame _ _ _ st₂ fun b hb o e => ?_
    rcases hfp b hb with rfl | ⟨o', ho⟩
    · rw [(N₂ _ (.head _)).1] at e
      cases e
      exact (N₃ _ (.head _)).1
    · rw [(N₂ _ (.tail _ (ho _ _ _ hJ))).1] at e
      cases e
      exact (N₃ _ (.tail _ (ho _ _ _ J₃))).1
  · have hin : i = n := by omega
    subst hin
    refine W.done _ _ _ st' fun h₁ tk₁ hk₁ => wpAny_execs_nil ?_
    obtain ⟨F₁, N₁⟩ := nxt h₁ hk₁
    exact fin h₁ tk₁ m' led' hJ F₁ N₁
end
section
variable {w : World} {A : Around} {h₀ : Heap} {env : Env} {L : Addr}
theorem loopFL {la : Addr} {lo : Obj} {vs : List Value} {x : Str} {px : Pos} {body : List Stmt} {Q : Flow → Shared → Prop} {E : Value → Shared → Prop} {s : Shared} {m : Str → Option Value} {led : Led}
    (J : Nat → (Str → Option Value) → Led → Prop) (hh : A.handled = none) (hs : SeqOf vs lo) (hx : env.kindOf x = some .local) (hL : env.locals = L)
    (hp : (env.scope.kind == .class || (env.scope.kind == .module && env.locals != env.globals)) = false)
    (F : Fr h₀ L s.heap m) (N : News h₀ L s.heap led) (h0 : J 0 m led) (hla : ∀ i m' led', J i m' led' → (la, lo) ∈ led')
    (turn : ∀ i v h' tk m' led' I it, vs[i]? = some v → J i m' led' → Fr h₀ L h' (fun y => if y = x then some v else m' y) → News h₀ L h' ((I, it) :: led') → (∀ q ∈ led', q.1 ≠ I) →
      wpAny (model PRG w) A (execs body env) (LoopEndF h₀ L I it (J (i + 1)) s) E { s with heap := h', toks := tk })
    (fin : ∀ h' tk m' led', J vs.length m' led' → Fr h₀ L h' m' → News h₀ L h' led' → Q .next { s with heap := h', toks := tk })
    (hE : PassesOwn (model PRG w) A env E) :
    wpAny (model PRG w) A (pyIter (.ref la)) (fun it s₂ => codeAny (model PRG w) A (.forLoop (.Name x px) it body [] env) (fun r s' => match r with | .ok f => Q f s' | .error e => cameBackBy (model PRG w) A env E e s') s₂) E s := by
  obtain ⟨c, St, hW, hSt, _, hI⟩ := seq_walksG (w := w) (A := A) hh (PySem.Expr.Name x px) hs
  have hl := hla _ _ _ h0
  have lt := Heap.lt_size (N _ hl).1
  refine hI s _ E (N _ hl).1 fun o ho hf st => ?_
  have hne : la ≠ s.heap.objs.size := Nat.ne_of_lt lt
  refine loopF (s := { s with heap := s.heap.push o }) J (hW _ hne) (fun i h x => let ⟨it, h1, _⟩ := hSt _ i h x; ⟨it, h1⟩) (fun b hb => ?_) hx hL hp st (F.push o) (N.push F o hf) (fun q hq => Nat.ne_of_lt (Heap.lt_size (N q hq).1)) h0
    (fun i v h' tk m' led' it _ hv hJ F' N' n' => turn i v h' tk m' led' _ it hv hJ F' N' n') fin hE
  rcases List.mem_cons.mp hb with rfl | hb
  · exact .inl rfl
  · rw [List.mem_singleton.mp hb]
    exact .inr ⟨lo, hla⟩
end
theorem news_lt {h₀ h : Heap} {L : Addr} {led : Led} (N : News h₀ L h led) : ∀ p ∈ led, p.1 < h.objs.size := fun p hp => Heap.lt_size (N p hp).1
section
variable {M : Model} {A : Around} {env : Env}
theorem any_E {body : List Stmt} {Q : Flow → Shared → Prop} {E : Value → Shared → Prop} {s : Shared} (hE : PassesOwn M A env E) (k : ∀ E', PassesOwn M A env E' → wpAny M A (execs body env) Q E' s) : wpAny M A (execs body env) Q E s := k E hE
noncomputable def RetTrue (h₀ : Heap) (L : Addr) (s₀ : Shared) (f : Flow) (s' : Shared) : Prop := f = .ret (.bool true) ∧ ∃ h' tk m c1 c2 oc1 oc2 more, s' = { s₀ with heap := h', toks := tk } ∧ Fr h₀ L h' m ∧ News h₀ L h' ((179, tabD c1 c2) :: (c1, oc1) :: (c2, oc2) :: more)
theorem at_end {body : List Stmt} {Q : Flow → Shared → Prop} {E : Value → Shared → Prop} {s : Shared} {h₀ : Heap} {L : Addr} {m₀ : Str → Option Value} (_F : Fr h₀ L s.heap m₀) (h1 : wpAny M A (execs body env) (RetTrue h₀ L s) E s) (h2 : ∀ f s', RetTrue h₀ L s f s' → Q f s') : wpAny M A (execs body env) Q E s :=
  wpAny_mono h1 h2 (fun _ _ e => e)
end
noncomputable def Stop (P : Prop) : Prop := P
theorem stop_here {P : Prop} (h : Stop P) : P := h
theorem go_on {P : Prop} (h : P) : Stop P := h
theorem pool_of {ys : List Value} {ws : List Int} (h : IntsAre ys (List.map (fun k' => (if k' < 0 then -k' else k').fmod (10 ^ Int.toNat 80)) (List.take 24 ws))) : PoolAt ys := by
  refine ⟨_, h, by rw [List.length_map, List.length_take]; omega, fun x hx => ?_, fun x hx => ?_⟩
  · obtain ⟨k, _, rfl⟩ := List.mem_map.mp hx
    exact Int.fmod_nonneg_of_pos _ (by decide)
  · obtain ⟨k, _, rfl⟩ := List.mem_map.mp hx
    have h1 : (if k < 0 then -k else k).fmod (10 ^ Int.toNat 80) < 10 ^ Int.toNat 80 := Int.fmod_lt_of_pos _ (by decide)
    have h0 : 0 ≤ (if k < 0 then -k else k).fmod (10 ^ Int.toNat 80) := Int.fmod_nonneg_of_pos _ (by decide)
    refine intBits_le ?_
    have h2 : ((10 : Int) ^ Int.toNat 80) ≤ 2 ^ 300 := by decide +kernel
    generalize (if k < 0 then -k else k).fmod (10 ^ Int.toNat 80) = z at *
    have h3 : (z.natAbs : Int) < ((2 ^ 300 : Nat) : Int) := by
      rw [Int.natAbs_of_nonneg h0]
      exact Int.lt_of_lt_of_le h1 h2
    exact Int.ofNat_lt.mp h3
example : True := by
  k_with "call ref" => (k_here; (with_reducible show wpAny _ _ (PySem.call (Value.ref 156) _ _) _ _ _); k_dflt (refine' Spec.use (take_at  ?kw_s1 ?kw_s2 ?kw_s3 ?kw_s4) ?kw_hf ?kw_hk ?kw_B ?kw_F ?kw_X ?kw_N ?kw_T ?kw_hd ?kw_hu ?_; (case kw_hf => exact rfl); (case kw_hk => exact rfl); (case kw_B => k_asm); (case kw_F => k_asm); (case kw_X => k_asm); (case kw_N => k_asm); (case kw_T => k_asm); (case kw_s1 => k_updF); (case kw_s2 => assumption); (case kw_s3 => first | decide | exact Int.pow_pos (by decide)); (case kw_s4 => first | decide +kernel | exact Nat.le_trans (bits_pow10 (by omega)) (by decide)); (case kw_hd => first | (dsimp only [AA, Around.deeper]; omega) | decide +kernel); (case kw_hu => first | (dsimp only [AA, Around.deeper]; omega) | decide +kernel); k_whole; intro r9 n9 h9 tk9 R9 F9 N9; obtain ⟨vs9, nn9, k9, d9, e8, d0, d1, p9, e9⟩ := R9; replace e8 := Eq.symm e8; replace e9 := Eq.symm e9; subst e8 e9; (try dsimp only at N9); (have l9 := news_lt N9); (try k_lt l9); (try dsimp only); (try k_sweep); (try (with_reducible show wpAny _ _ _ _ _ _)); (try k_fold)))
  trivial
structure NamesAt (names : List Str) (vs : List Value) : Prop where
  len : vs.length = names.length
  lo : 1 ≤ names.length
  hi : names.length ≤ 3
  nodup : names.Nodup
  vals : ∀ (i : Nat) (v : Value), vs[i]? = some v → ∃ nm t, names[i]? = some nm ∧ v = Value.str nm t
theorem sorts_item {w : World} {A : Around} {E : Value → Shared → Prop} {s : Shared} {h₀ : Heap} {L : Addr} {m : Str → Option Value} {value slice : PySem.Expr} {d : Int} {k : Tok} {Q : Value → Shared → Prop} (X : (hd.heap_39 w.params).In h₀) (F : Fr h₀ L s.heap m) (h0 : 0 ≤ d) (h1 : d < 7)
    (h : ∀ a x t u, (hd.heap_39 w.params).lookup a = some (tupS x t u) → SrtOk x → Q (.ref a) s)
    (hs : subscripted slice false (.ref 149) (.int d k) = operate [.ref 149, .int d k] (getItem (.ref 149) (.int d k)) := by with_unfolding_all rfl) :
    wpAny (model PRG w) A (subscriptTail value slice (.ref 149) (.int d k)) Q E s := by
  have : d = 0 ∨ d = 1 ∨ d = 2 ∨ d = 3 ∨ d = 4 ∨ d = 5 ∨ d = 6 := by omega
  rcases this with rfl | rfl | rfl | rfl | rfl | rfl | rfl
  · exact topTup_K F X (by k_is) (by decide) (by decide) (j := 0) (by rfl) (by rfl) (h _ ⟨_, _, _⟩ _ _ (by k_is) ⟨by decide, by decide, by decide, by decide⟩) hs
  · exact topTup_K F X (by k_is) (by decide) (by decide) (j := 1) (by rfl) (by rfl) (h _ ⟨_, _, _⟩ _ _ (by k_is) ⟨by decide, by decide, by decide, by decide⟩) hs
  · exact topTup_K F X (by k_is) (by decide) (by decide) (j := 2) (by rfl) (by rfl) (h _ ⟨_, _, _⟩ _ _ (by k_is) ⟨by decide, by decide, by decide, by decide⟩) hs
  · exact topTup_K F X (by k_is) (by decide) (by decide) (j := 3) (by rfl) (by rfl) (h _ ⟨_, _, _⟩ _ _ (by k_is) ⟨by decide, by decide, by decide, by decide⟩) hs
  · exact topTup_K F X (by k_is) (by decide) (by decide) (j := 4) (by rfl) (by rfl) (h _ ⟨_, _, _⟩ _ _ (by k_is) ⟨by decide, by decide, by decide, by decide⟩) hs
  · exact topTup_K F X (by k_is) (by decide) (by decide) (j := 5) (by rfl) (by rfl) (h _ ⟨_, _, _⟩ _ _ (by k_is) ⟨by decide, by decide, by decide, by decide⟩) hs
  · exact topTup_K F X (by k_is) (by decide) (by decide) (j := 6) (by rfl) (by rfl) (h _ ⟨_, _, _⟩ _ _ (by k_is) ⟨by decide, by decide, by decide, by decide⟩) hs

theorem stored_at {kvs : List (Str × Value)} {nm : Str} {v : Value} : valueAt (stored kvs nm v) nm = some v := by
  cases h : valueAt kvs nm with
  | some u => rw [stored_here h, valueAt_map, if_pos rfl, h]; rfl
  | none =>
    rw [stored_absent h]
    unfold valueAt at h ⊢
    rw [List.find?_append]
    cases hz : kvs.find? (fun kv => kv.1 = nm) with
    | some kv => rw [hz] at h; cases h
    | none => simp
theorem valueAt_snoc {kvs : List (Str × Value)} {nm y : Str} {v : Value} (h : valueAt kvs nm = none) (hy : y ≠ nm) : valueAt (stored kvs nm v) y = valueAt kvs y := by
  rw [stored_absent h]
  unfold valueAt
  rw [List.find?_append]
  cases hz : kvs.find? (fun kv => kv.1 = y) with
  | some kv => rfl
  | none =>
    have : ¬ nm = y := fun e => hy e.symm
    simp [this]
theorem absent_of {names : List Str} {kvs : List (Str × Value)} {nm : Str} (hk : kvs.map (·.1) = names) (hn : nm ∉ names) : valueAt kvs nm = none := valueAt_none_of_not_mem (hk ▸ hn)
theorem HeldOk.snoc {names : List Str} {x : Str → Int} {kvs : List (Str × Value)} {nm : Str} {u : Int} {t : Tok} (h : HeldOk names x kvs) (hn : nm ∉ names) (hu : Bits u 30) : HeldOk (names ++ [nm]) (upd x nm u) (stored kvs nm (.int u t)) := by
  have ha := absent_of h.keys hn
  refine ⟨by rw [stored_absent ha, List.map_append, h.keys]; rfl, fun y hy => ?_, fun y hy => ?_⟩
  · by_cases q : y = nm
    · subst q
      exact ⟨t, by rw [stored_at]; unfold upd; rw [if_pos rfl]⟩
    · rcases List.mem_append.mp hy with hy | hy
      · obtain ⟨t₁, e⟩ := h.vals y hy
        exact ⟨t₁, by rw [valueAt_snoc ha q, e]; unfold upd; rw [if_neg q]⟩
      · exact absurd (List.mem_singleton.mp hy) q
  · unfold upd
    by_cases q : y = nm
    · rw [if_pos q]; exact hu
    · rw [if_neg q]
      rcases List.mem_append.mp hy with hy | hy
      · exact h.bits y hy
      · exact absurd (List.mem_singleton.mp hy) q
theorem SortsOk.snoc {w : World} {news : Led} {names : List Str} {S : Str → Srt} {kvs : List (Str × Value)} {nm : Str} {a : Addr} {x : Srt} (h : SortsOk w news names S kvs) (hk : kvs.map (·.1) = names) (hn : nm ∉ names) (hx : SrtAt w news a x) (ox : SrtOk x) :
    SortsOk w news (names ++ [nm]) (fun y => if y = nm then x else S y) (stored kvs nm (.ref a)) ∧ (stored kvs nm (.ref a)).map (·.1) = names ++ [nm] := by
  have ha := absent_of hk hn
  refine ⟨⟨fun y hy => ?_, fun y hy => ?_⟩, by rw [stored_absent ha, List.map_append, hk]; rfl⟩
  · by_cases q : y = nm
    · subst q
      exact ⟨a, stored_at, by rw [if_pos rfl]; exact hx⟩
    · rcases List.mem_append.mp hy with hy | hy
      · obtain ⟨b, e, hb⟩ := h.vals y hy
        exact ⟨b, by rw [valueAt_snoc ha q, e], by rw [if_neg q]; exact hb⟩
      · exact absurd (List.mem_singleton.mp hy) q
  · by_cases q : y = nm
    · rw [if_pos q]; exact ox
    · rw [if_neg q]
      rcases List.mem_append.mp hy with hy | hy
      · exact h.ok y hy
      · exact absurd (List.mem_singleton.mp hy) q
inductive J1 (w : World) (names : List Str) (nvs : List Value) (hdA sd na pa : Addr) (q3 : Addr × Obj) (mm : Str → Option Value) (i : Nat) (m : Str → Option Value) (led : Led) : Prop
  | mk (zv : Option Value) (vs : List Value) (n : Nat) (oH : Obj) (kvsH : List (Str × Value)) (oS : Obj) (kvsS : List (Str × Value)) (x : Str → Int) (S : Str → Srt) (c0 : PoolAt vs) (c1 : oH.IsDictOf (strKind PRG w) kvsH) (c2 : HeldOk (names.take i) x kvsH) (c3 : oS.IsDictOf (strKind PRG w) kvsS) (c4 : kvsS.map (·.1) = names.take i) (c5 : SortsOk w [] (names.take i) S kvsS) (c6 : led = [(hdA, oH), (sd, oS), (na, listO nvs 0), (pa, listO vs n), q3]) (c7 : m = (fun y => if y = PySem.Str.ofString "name" then zv else mm y)) : J1 w names nvs hdA sd na pa q3 mm i m led
section
variable {w : World} {A : Around} {h₀ : Heap} {env : Env} {L : Addr}
theorem loop1_rule {names : List Str} {nvs : List Value} {hdA sd na pa : Addr} {q3 : Addr × Obj} {oH oS : Obj} {vs : List Value} {n : Nat} {px : Pos} {body : List Stmt} {Q : Flow → Shared → Prop} {E : Value → Shared → Prop} {s : Shared} {m : Str → Option Value}
    (hh : A.handled = none) (hn : NamesAt names nvs) (hx : env.kindOf (PySem.Str.ofString "name") = some .local) (hL : env.locals = L)
    (hp : (env.scope.kind == .class || (env.scope.kind == .module && env.locals != env.globals)) = false)
    (F : Fr h₀ L s.heap m) (N : News h₀ L s.heap [(hdA, oH), (sd, oS), (na, listO nvs 0), (pa, listO vs n), q3]) (hdH : oH.IsDictOf (strKind PRG w) []) (hdS : oS.IsDictOf (strKind PRG w) []) (hP : PoolAt vs)
    (turn : ∀ (i : Nat) (nm : Str) (nt : Tok) h2 tk2 I it vs n oH kvsH oS kvsS x S, names[i]? = some nm → PoolAt vs → oH.IsDictOf (strKind PRG w) kvsH → HeldOk (names.take i) x kvsH → oS.IsDictOf (strKind PRG w) kvsS → kvsS.map (·.1) = names.take i → SortsOk w [] (names.take i) S kvsS →
      kvsH.length ≤ 3 → kvsS.length ≤ 3 → @Ne Nat I hdA → @Ne Nat I sd → @Ne Nat I na → @Ne Nat I pa → @Ne Nat I q3.1 →
      Fr h₀ L h2 (fun y => if y = PySem.Str.ofString "name" then some (.str nm nt) else m y) → News h₀ L h2 [(I, it), (hdA, oH), (sd, oS), (na, listO nvs 0), (pa, listO vs n), q3] →
      wpAny (model PRG w) A (execs body env) (LoopEndF h₀ L I it (J1 w names nvs hdA sd na pa q3 m (i + 1)) s) E { s with heap := h2, toks := tk2 })
    (fin : ∀ h2 tk2 zv vs n oH kvsH oS kvsS x S, PoolAt vs → oH.IsDictOf (strKind PRG w) kvsH → HeldOk names x kvsH → oS.IsDictOf (strKind PRG w) kvsS → kvsS.map (·.1) = names → SortsOk w [] names S kvsS →
      Fr h₀ L h2 (fun y => if y = PySem.Str.ofString "name" then zv else m y) → News h₀ L h2 [(hdA, oH), (sd, oS), (na, listO nvs 0), (pa, listO vs n), q3] → Q .next { s with heap := h2, toks := tk2 })
    (hE : PassesOwn (model PRG w) A env E) :
    wpAny (model PRG w) A (pyIter (.ref na)) (fun it s₂ => codeAny (model PRG w) A (.forLoop (.Name (PySem.Str.ofString "name") px) it body [] env) (fun r s' => match r with | .ok f => Q f s' | .error e => cameBackBy (model PRG w) A env E e s') s₂) E s := by
  refine loopFL (J1 w names nvs hdA sd na pa q3 m) hh (SeqOf.list (vs := nvs) 0) hx hL hp F N ?h0 ?hla ?turn ?fin hE
  case h0 =>
    refine ⟨m (PySem.Str.ofString "name"), vs, n, oH, [], oS, [], fun _ => 0, fun _ => ⟨0, 0, false⟩, hP, hdH, ⟨rfl, fun _ h => (nomatch h), fun _ h => (nomatch h)⟩, hdS, rfl, ⟨fun _ h => (nomatch h), fun _ h => (nomatch h)⟩, rfl, ?_⟩
    funext y
    by_cases y1 : y = PySem.Str.ofString "name"
    · rw [if_pos y1, y1]
    · rw [if_neg y1]
  case hla =>
    rintro i m' led' ⟨_, _, _, _, _, _, _, _, _, _, _, _, _, _, _, rfl, _⟩
    exact .tail _ (.tail _ (.head _))
  case turn =>
    rintro i v h2 tk2 m2 led2 I it hv ⟨zv, vs, n, oH, kvsH, oS, kvsS, x, S, hp, hdH, okH, hdS, kS, okS, rfl, rfl⟩ F2 N2 nI
    obtain ⟨nm, nt, hnm, rfl⟩ := hn.vals i v hv
    have hl : (names.take i).length ≤ 3 := by rw [List.length_take]; have := hn.hi; omega
    refine turn i nm nt h2 tk2 I it vs n oH kvsH oS kvsS x S hnm hp hdH okH hdS kS okS (by rw [← List.length_map (f := (·.1)), okH.keys]; exact hl) (by rw [← List.length_map (f := (·.1)), kS]; exact hl)
      (Ne.symm (nI _ (.head _))) (Ne.symm (nI _ (.tail _ (.head _)))) (Ne.symm (nI _ (.tail _ (.tail _ (.head _))))) (Ne.symm (nI _ (.tail _ (.tail _ (.tail _ (.head _)))))) (Ne.symm (nI _ (.tail _ (.tail _ (.tail _ (.tail _ (.head _))))))) ?_ N2
    have e : (fun y => if y = PySem.Str.ofString "name" then some (Value.str nm nt) else (fun y => if y = PySem.Str.ofString "name" then zv else m y) y) = (fun y => if y = PySem.Str.ofString "name" then some (Value.str nm nt) else m y) := by
      funext y
      by_cases y1 : y = PySem.Str.ofString "name"
      · rw [if_pos y1, if_pos y1]
      · rw [if_neg y1, if_neg y1]
        show (if y = PySem.Str.ofString "name" then zv else m y) = m y
        rw [if_neg y1]
    rw [← e]
    exact F2
  case fin =>
    rintro h2 tk2 m2 led2 ⟨zv, vs, n, oH, kvsH, oS, kvsS, x, S, hp, hdH, okH, hdS, kS, okS, rfl, rfl⟩ F2 N2
    have e : names.take nvs.length = names := by rw [hn.len]; exact List.take_length ..
    rw [e] at okH kS okS
    exact fin h2 tk2 zv vs n oH kvsH oS kvsS x S hp hdH okH hdS kS okS F2 N2
theorem end1 {names : List Str} {nvs : List Value} {hdA sd na pa I : Addr} {it : Obj} {q3 : Addr × Obj} {mm : Str → Option Value} {s : Shared} {i : Nat} {nm : Str} {nt t : Tok} {u : Int} {a : Addr} {xs : Srt} {t1 u1 : Tok} {kvsH kvsS : List (Str × Value)} {oH oS : Obj} {vs : List Value} {n tk : Nat} {x : Str → Int} {S : Str → Srt} {h2 : Heap}
    (hn : NamesAt names nvs) (hnm : names[i]? = some nm) (hp : PoolAt vs) (okH : HeldOk (names.take i) x kvsH) (hdH : oH.IsDictOf (strKind PRG w) (stored kvsH nm (.int u t))) (hu : Bits u 30)
    (okS : SortsOk w [] (names.take i) S kvsS) (kS : kvsS.map (·.1) = names.take i) (hdS : oS.IsDictOf (strKind PRG w) (stored kvsS nm (.ref a))) (hx : (hd.heap_39 w.params).lookup a = some (tupS xs t1 u1)) (ox : SrtOk xs)
    (n1 : @Ne Nat I hdA) (n2 : @Ne Nat I sd) (n3 : @Ne Nat I na) (n4 : @Ne Nat I pa) (n5 : @Ne Nat I q3.1)
    (F : Fr h₀ L h2 (fun y => if y = PySem.Str.ofString "name" then some (.str nm nt) else mm y)) (N : News h₀ L h2 [(I, it), (hdA, oH), (sd, oS), (na, listO nvs 0), (pa, listO vs n), q3]) :
    LoopEndF h₀ L I it (J1 w names nvs hdA sd na pa q3 mm (i + 1)) s .next { s with heap := h2, toks := tk } := by
  have hnot : nm ∉ names.take i := fun hm => by
    have hd : nm ∈ names.drop i := List.mem_of_getElem? (i := 0) (by rw [List.getElem?_drop, Nat.add_zero]; exact hnm)
    have hnd := hn.nodup
    rw [← List.take_append_drop i names, List.nodup_append] at hnd
    exact hnd.2.2 nm hm nm hd rfl
  have ht : names.take (i + 1) = names.take i ++ [nm] := by rw [List.take_add_one, hnm]; rfl
  obtain ⟨s1, s2⟩ := okS.snoc kS hnot ⟨t1, u1, .inr hx⟩ ox
  refine ⟨rfl, h2, tk, _, _, rfl, F, N, fun q hq => ?_, _, vs, n, oH, _, oS, _, _, _, hp, hdH, by rw [ht]; exact okH.snoc hnot hu, hdS, by rw [ht]; exact s2, by rw [ht]; exact s1, rfl, rfl⟩
  simp only [List.mem_cons, List.not_mem_nil, or_false] at hq
  rcases hq with rfl | rfl | rfl | rfl | rfl
  · exact Ne.symm n1
  · exact Ne.symm n2
  · exact Ne.symm n3
  · exact Ne.symm n4
  · exact Ne.symm n5
theorem digit_bits {d : Int} {x : Srt} {z : Int} (hz : z = d * 1 ∨ z = d * -1) (h1 : d < 10 ^ x.d.toNat) (h0 : 0 ≤ d) (ox : SrtOk x) : Bits z 30 := by
  have h6 : ((10 ^ x.d.toNat : Nat) : Int) ≤ ((10 ^ 6 : Nat) : Int) := by
    obtain ⟨a, b, _, _⟩ := ox
    exact Int.ofNat_le.mpr (Nat.pow_le_pow_right (by decide) (by omega))
  have e6 : d < 1000000 := Int.lt_of_lt_of_le h1 (by rw [Int.natCast_pow] at h6; exact h6)
  have : z.natAbs < 2 ^ 30 := by omega
  exact intBits_le this
end
noncomputable abbrev setM (x : String) (v : Option Value) (m : Str → Option Value) : Str → Option Value := fun y => if y = PySem.Str.ofString x then v else m y
noncomputable abbrev tab0 : Addr × Obj := (179, tabObj #[])
noncomputable def MidP (h₀ : Heap) (L : Addr) (s₀ : Shared) (m₀ : Str → Option Value) (s' : Shared) : Prop :=
  ∀ P : Shared → Prop, (∀ h tk pa vs n, PoolAt vs → @Ne Nat pa 179 → Fr h₀ L h (setM "pool" (some (.ref pa)) m₀) → News h₀ L h [(pa, listO vs n), tab0]  → P { s₀ with heap := h, toks := tk }) → P s'
noncomputable abbrev Lt (a b : Addr) : Prop := @LT.lt Nat _ a b
noncomputable def MidN (h₀ : Heap) (L : Addr) (s₀ : Shared) (m₀ : Str → Option Value) (s' : Shared) : Prop :=
  ∀ P : Shared → Prop, (∀ h tk pa vs n na names nvs, PoolAt vs → NamesAt names nvs → @Ne Nat pa 179 → Lt 179 na → Lt pa na → Fr h₀ L h (setM "names" (some (.ref na)) (setM "pool" (some (.ref pa)) m₀)) → News h₀ L h [(na, listO nvs 0), (pa, listO vs n), tab0]  → P { s₀ with heap := h, toks := tk }) → P s'
noncomputable def MidD (w : World) (h₀ : Heap) (L pa na : Addr) (vs nvs : List Value) (n : Nat) (s₀ : Shared) (m : Str → Option Value) (s' : Shared) : Prop :=
  ∀ P : Shared → Prop, (∀ h tk hdA oH sd oS, oH.IsDictOf (strKind PRG w) [] → oS.IsDictOf (strKind PRG w) [] → Lt na sd → Lt sd hdA → Fr h₀ L h (setM "sorts" (some (.ref sd)) (setM "held" (some (.ref hdA)) m)) → News h₀ L h [(hdA, oH), (sd, oS), (na, listO nvs 0), (pa, listO vs n), tab0]  → P { s₀ with heap := h, toks := tk }) → P s'
noncomputable def Mid4 (w : World) (h₀ : Heap) (L pa na hdA sd : Addr) (names : List Str) (nvs : List Value) (s₀ : Shared) (m : Str → Option Value) (s' : Shared) : Prop :=
  ∀ P : Shared → Prop, (∀ h tk vs n oH oS kvsH kvsS x S zv, PoolAt vs → oH.IsDictOf (strKind PRG w) kvsH → HeldOk names x kvsH → oS.IsDictOf (strKind PRG w) kvsS → kvsS.map (·.1) = names → SortsOk w [] names S kvsS → Fr h₀ L h (setM "name" zv m) → News h₀ L h [(hdA, oH), (sd, oS), (na, listO nvs 0), (pa, listO vs n), tab0]  → P { s₀ with heap := h, toks := tk }) → P s'
noncomputable def Mid5 (h₀ : Heap) (L pa na hdA sd : Addr) (oH oS : Obj) (nvs : List Value) (s₀ : Shared) (m : Str → Option Value) (s' : Shared) : Prop :=
  ∀ P : Shared → Prop, (∀ h tk vs n z t, PoolAt vs → -100000 ≤ z → z ≤ (100000 : Int) → Fr h₀ L h (setM "units" (some (.int z t)) m) → News h₀ L h [(hdA, oH), (sd, oS), (na, listO nvs 0), (pa, listO vs n), tab0]  → P { s₀ with heap := h, toks := tk }) → P s'
noncomputable def Mid6 (h₀ : Heap) (L pa na hdA sd : Addr) (oH oS : Obj) (nvs : List Value) (s₀ : Shared) (m : Str → Option Value) (s' : Shared) : Prop :=
  ∀ P : Shared → Prop, (∀ h tk vs n wa wo t u, PoolAt vs → PairOk wo → wo.2 ≤ 6 → @Ne Nat wa hdA → @Ne Nat wa sd → @Ne Nat wa na → @Ne Nat wa pa → @Ne Nat wa 179 → Fr h₀ L h (setM "worth" (some (.ref wa)) m) → News h₀ L h [(wa, tup2 wo.1 wo.2 t u), (hdA, oH), (sd, oS), (na, listO nvs 0), (pa, listO vs n), tab0]  → P { s₀ with heap := h, toks := tk }) → P s'
noncomputable def Mid7 (w : World) (h₀ : Heap) (L pa na hdA sd wa : Addr) (oH oS oW : Obj) (nvs vs : List Value) (n : Nat) (kvsH : List (Str × Value)) (s₀ : Shared) (m : Str → Option Value) (s' : Shared) : Prop :=
  ∀ P : Shared → Prop, (∀ h tk du oD rl rn, oD.IsDictOf (strKind PRG w) kvsH → Lt wa du → Lt hdA du → Lt du rl → Fr h₀ L h (setM "is_odd" (some (.bool false)) (setM "rows" (some (.ref rl)) (setM "due" (some (.ref du)) m))) → News h₀ L h [(rl, listO [] rn), (du, oD), (wa, oW), (hdA, oH), (sd, oS), (na, listO nvs 0), (pa, listO vs n), tab0]  → P { s₀ with heap := h, toks := tk }) → P s'
theorem news_sub {h₀ h : Heap} {L : Addr} {led led' : Led} (N : News h₀ L h led) (hs : ∀ q ∈ led', q ∈ led) : News h₀ L h led' := fun q hq => N q (hs q hq)
theorem list_slice {d : Int} {t1 t2 t3 : Tok} (h0 : 0 ≤ d) (h1 : d < 3) : ∃ names nvs, slicePick #[Value.str (Str.ofString "A") t1, Value.str (Str.ofString "B") t2, Value.str (Str.ofString "C") t3] none (some (1 + d)) none = List.toArray nvs ∧ NamesAt names nvs := by
  have : d = 0 ∨ d = 1 ∨ d = 2 := by omega
  rcases this with rfl | rfl | rfl
  · refine ⟨[Str.ofString "A"], [Value.str (Str.ofString "A") t1], rfl, rfl, by decide, by decide, by decide, fun i v h => ?_⟩
    rcases i with _ | i
    · cases h; exact ⟨_, _, rfl, rfl⟩
    · simp at h
  · refine ⟨[Str.ofString "A", Str.ofString "B"], [Value.str (Str.ofString "A") t1, Value.str (Str.ofString "B") t2], rfl, rfl, by decide, by decide, by decide, fun i v h => ?_⟩
    rcases i with _ | _ | i
    · cases h; exact ⟨_, _, rfl, rfl⟩
    · cases h; exact ⟨_, _, rfl, rfl⟩
    · simp at h
  · refine ⟨[Str.ofString "A", Str.ofString "B", Str.ofString "C"], [Value.str (Str.ofString "A") t1, Value.str (Str.ofString "B") t2, Value.str (Str.ofString "C") t3], rfl, rfl, by decide, by decide, by decide, fun i v h => ?_⟩
    rcases i with _ | _ | _ | i
    · cases h; exact ⟨_, _, rfl, rfl⟩
    · cases h; exact ⟨_, _, rfl, rfl⟩
    · cases h; exact ⟨_, _, rfl, rfl⟩
    · simp at h
/-- the ends of the statements -/
theorem end_pool {h₀ h : Heap} {L : Addr} {s₀ : Shared} {m₀ : Str → Option Value} {tk n : Nat} {pa : Addr} {vs : List Value} {more : Led} (F : Fr h₀ L h (setM "pool" (some (.ref pa)) m₀)) (N : News h₀ L h ((pa, listO vs n) :: more)) (hp : PoolAt vs) (ht : tab0 ∈ more) (hne : @Ne Nat pa 179) :
    CutF (MidP h₀ L s₀ m₀) .next { s₀ with heap := h, toks := tk } :=
  ⟨rfl, fun _ k => k h tk pa vs n hp hne F (fun q hq => by
    rcases List.mem_cons.mp hq with rfl | hq
    · exact N _ (.head _)
    · rw [List.mem_singleton.mp hq]; exact N _ (.tail _ ht))⟩
theorem names_slice {w : World} {A : Around} {E : Value → Shared → Prop} {s : Shared} {h₀ : Heap} {L l : Addr} {m : Str → Option Value} {news : Led} {value slice : PySem.Expr} {d : Int} {t t1 t2 t3 : Tok} {Q : Value → Shared → Prop} (F : Fr h₀ L s.heap m) (N : News h₀ L s.heap news)
    (hl : s.heap.IsList l #[Value.str (Str.ofString "A") t1, Value.str (Str.ofString "B") t2, Value.str (Str.ofString "C") t3]) (h0 : 0 ≤ d) (h1 : d < 3)
    (h : ∀ D h' names nvs, NamesAt names nvs → Fr h₀ L h' m → News h₀ L h' ((D, listO nvs 0) :: news) → (∀ p ∈ news, p.1 < D) → Q (.ref D) { s with heap := h' })
    (hs : subscripted slice false (.ref l) (.ref s.heap.objs.size) = operate [.ref s.heap.objs.size, .ref l] (getItem (.ref l) (.ref s.heap.objs.size))) (ht : ∀ r, letTemporaryGo value (.ref l) r = pure ()) :
    wpAny (model PRG w) A (subscriptTail value slice (.ref l) (.ref s.heap.objs.size)) Q E { s with heap := s.heap.push { cls := .type "slice", data := .fields #[.none, .int (1 + d) t, .none] } } := by
  obtain ⟨names, nvs, e, hn⟩ := list_slice (t1 := t1) (t2 := t2) (t3 := t3) h0 h1
  refine kmk_slice F N hl .none (.int _ _) (fun D h' F' N' l1 => ?_) hs ht (by rw [sizeLine_eq]; show 3 ≤ 16777216; decide)
  rw [e] at N'
  exact h D h' names nvs hn F' N' l1
section
variable {M : Model} {A : Around} {env : Env} {st : Stmt} {rest : List Stmt} {Q : Flow → Shared → Prop} {E : Value → Shared → Prop} {s₀ : Shared} {h₀ : Heap} {L : Addr} {m₀ m : Str → Option Value}
theorem end_names {h : Heap} {tk n : Nat} {pa na : Addr} {vs nvs : List Value} {names : List Str} {q1 : Addr × Obj} (F : Fr h₀ L h (setM "names" (some (.ref na)) (setM "pool" (some (.ref pa)) m₀)))
    (N : News h₀ L h [(na, listO nvs 0), q1, (pa, listO vs n), tab0]) (hn : NamesAt names nvs) (hp : PoolAt vs) (n1 : @Ne Nat pa 179) (n2 : Lt 179 na) (n3 : Lt pa na) :
    CutF (MidN h₀ L s₀ m₀) .next { s₀ with heap := h, toks := tk } := by
  refine ⟨rfl, fun _ k => k h tk pa vs n na names nvs hp hn n1 n2 n3 F (news_sub N fun q hq => ?_)⟩
  simp only [List.mem_cons, List.not_mem_nil, or_false] at hq ⊢
  rcases hq with h | h | h <;> simp only [h, true_or, or_true]
theorem end_dicts {w : World} {h : Heap} {tk n : Nat} {pa na hdA sd : Addr} {oH oS : Obj} {vs nvs : List Value} {q1 : Addr × Obj}
    (F : Fr h₀ L h (setM "sorts" (some (.ref sd)) (setM "held" (some (.ref hdA)) m)))
    (N : News h₀ L h [q1, (hdA, oH), (sd, oS), (na, listO nvs 0), (pa, listO vs n), tab0]) (hdH : oH.IsDictOf (strKind PRG w) []) (hdS : oS.IsDictOf (strKind PRG w) []) (n1 : Lt na sd) (n2 : Lt sd hdA) :
    CutF (MidD w h₀ L pa na vs nvs n s₀ m) .next { s₀ with heap := h, toks := tk } :=
  ⟨rfl, fun _ k => k h tk hdA oH sd oS hdH hdS n1 n2 F fun q hq => N q (.tail _ hq)⟩
theorem cut_pool (_F : Fr h₀ L s₀.heap m₀) (h1 : wpAny M A (exec st env) (CutF (MidP h₀ L s₀ m₀)) E s₀)
    (h2 : ∀ h tk pa vs n, PoolAt vs → @Ne Nat pa 179 → Fr h₀ L h (setM "pool" (some (.ref pa)) m₀) → News h₀ L h [(pa, listO vs n), tab0] → wpAny M A (execs rest env) Q E { s₀ with heap := h, toks := tk }) :
    wpAny M A (execs (st :: rest) env) Q E s₀ :=
  cut _ h1 fun _ H => H (wpAny M A (execs rest env) Q E) h2
theorem cut_names {pa : Addr} (_F : Fr h₀ L s₀.heap (setM "pool" (some (.ref pa)) m₀)) (h1 : wpAny M A (exec st env) (CutF (MidN h₀ L s₀ m₀)) E s₀)
    (h2 : ∀ h tk pa vs n na names nvs, PoolAt vs → NamesAt names nvs → @Ne Nat pa 179 → Lt 179 na → Lt pa na → Fr h₀ L h (setM "names" (some (.ref na)) (setM "pool" (some (.ref pa)) m₀)) →
      News h₀ L h [(na, listO nvs 0), (pa, listO vs n), tab0] → wpAny M A (execs rest env) Q E { s₀ with heap := h, toks := tk }) :
    wpAny M A (execs (st :: rest) env) Q E s₀ :=
  cut _ h1 fun _ H => H (wpAny M A (execs rest env) Q E) h2
theorem cut_dicts (w : World) {pa na : Addr} {nvs vs : List Value} {n : Nat} (_F : Fr h₀ L s₀.heap m) (_N : News h₀ L s₀.heap [(na, listO nvs 0), (pa, listO vs n), tab0]) (h1 : wpAny M A (exec st env) (CutF (MidD w h₀ L pa na vs nvs n s₀ m)) E s₀)
    (h2 : ∀ h tk hdA oH sd oS, oH.IsDictOf (strKind PRG w) [] → oS.IsDictOf (strKind PRG w) [] → Lt na sd → Lt sd hdA →
      Fr h₀ L h (setM "sorts" (some (.ref sd)) (setM "held" (some (.ref hdA)) m)) → News h₀ L h [(hdA, oH), (sd, oS), (na, listO nvs 0), (pa, listO vs n), tab0] →
      wpAny M A (execs rest env) Q E { s₀ with heap := h, toks := tk }) :
    wpAny M A (execs (st :: rest) env) Q E s₀ :=
  cut _ h1 fun _ H => H (wpAny M A (execs rest env) Q E) h2
theorem cut_loop1 (w : World) {pa na hdA sd : Addr} {oH₀ oS₀ : Obj} {names : List Str} {nvs vs₀ : List Value} {n₀ : Nat} (_hn : NamesAt names nvs) (_F : Fr h₀ L s₀.heap m) (_N : News h₀ L s₀.heap [(hdA, oH₀), (sd, oS₀), (na, listO nvs 0), (pa, listO vs₀ n₀), tab0])
    (h1 : wpAny M A (exec st env) (CutF (Mid4 w h₀ L pa na hdA sd names nvs s₀ m)) E s₀)
    (h2 : ∀ h tk vs n oH oS kvsH kvsS x S zv, PoolAt vs → oH.IsDictOf (strKind PRG w) kvsH → HeldOk names x kvsH → oS.IsDictOf (strKind PRG w) kvsS → kvsS.map (·.1) = names → SortsOk w [] names S kvsS →
      Fr h₀ L h (setM "name" zv m) → News h₀ L h [(hdA, oH), (sd, oS), (na, listO nvs 0), (pa, listO vs n), tab0] → wpAny M A (execs rest env) Q E { s₀ with heap := h, toks := tk }) :
    wpAny M A (execs (st :: rest) env) Q E s₀ :=
  cut _ h1 fun _ H => H (wpAny M A (execs rest env) Q E) h2
theorem cut_units {pa na hdA sd : Addr} {oH oS : Obj} {nvs vs₀ : List Value} {n₀ : Nat} (_F : Fr h₀ L s₀.heap m) (_N : News h₀ L s₀.heap [(hdA, oH), (sd, oS), (na, listO nvs 0), (pa, listO vs₀ n₀), tab0])
    (h1 : wpAny M A (exec st env) (CutF (Mid5 h₀ L pa na hdA sd oH oS nvs s₀ m)) E s₀)
    (h2 : ∀ h tk vs n z t, PoolAt vs → -100000 ≤ z → z ≤ (100000 : Int) → Fr h₀ L h (setM "units" (some (.int z t)) m) → News h₀ L h [(hdA, oH), (sd, oS), (na, listO nvs 0), (pa, listO vs n), tab0] → wpAny M A (execs rest env) Q E { s₀ with heap := h, toks := tk }) :
    wpAny M A (execs (st :: rest) env) Q E s₀ :=
  cut _ h1 fun _ H => H (wpAny M A (execs rest env) Q E) h2
theorem cut_worth {pa na hdA sd : Addr} {oH oS : Obj} {nvs vs₀ : List Value} {n₀ : Nat} (_F : Fr h₀ L s₀.heap m) (_N : News h₀ L s₀.heap [(hdA, oH), (sd, oS), (na, listO nvs 0), (pa, listO vs₀ n₀), tab0])
    (h1 : wpAny M A (exec st env) (CutF (Mid6 h₀ L pa na hdA sd oH oS nvs s₀ m)) E s₀)
    (h2 : ∀ h tk vs n wa wo t u, PoolAt vs → PairOk wo → wo.2 ≤ 6 → @Ne Nat wa hdA → @Ne Nat wa sd → @Ne Nat wa na → @Ne Nat wa pa → @Ne Nat wa 179 → Fr h₀ L h (setM "worth" (some (.ref wa)) m) →
      News h₀ L h [(wa, tup2 wo.1 wo.2 t u), (hdA, oH), (sd, oS), (na, listO nvs 0), (pa, listO vs n), tab0] → wpAny M A (execs rest env) Q E { s₀ with heap := h, toks := tk }) :
    wpAny M A (execs (st :: rest) env) Q E s₀ :=
  cut _ h1 fun _ H => H (wpAny M A (execs rest env) Q E) h2
theorem cut_due (w : World) {pa na hdA sd wa : Addr} {oH oS oW : Obj} {nvs vs : List Value} {n : Nat} {kvsH : List (Str × Value)} (_F : Fr h₀ L s₀.heap m) (_N : News h₀ L s₀.heap [(wa, oW), (hdA, oH), (sd, oS), (na, listO nvs 0), (pa, listO vs n), tab0]) (_d : oH.IsDictOf (strKind PRG w) kvsH)
    (h1 : wpAny M A (exec st env) (CutF (Mid7 w h₀ L pa na hdA sd wa oH oS oW nvs vs n kvsH s₀ m)) E s₀)
    (h2 : ∀ h tk du oD rl rn, oD.IsDictOf (strKind PRG w) kvsH → Lt wa du → Lt hdA du → Lt du rl → Fr h₀ L h (setM "is_odd" (some (.bool false)) (setM "rows" (some (.ref rl)) (setM "due" (some (.ref du)) m))) →
      News h₀ L h [(rl, listO [] rn), (du, oD), (wa, oW), (hdA, oH), (sd, oS), (na, listO nvs 0), (pa, listO vs n), tab0] → wpAny M A (execs rest env) Q E { s₀ with heap := h, toks := tk }) :
    wpAny M A (execs (st :: rest) env) Q E s₀ :=
  cut _ h1 fun _ H => H (wpAny M A (execs rest env) Q E) h2
end
/-- the cut on sizes -/
noncomputable def csN (n d : Nat) (r : Bool) : Nat := if r = true then (if d ≤ 2 * (n - n / d * d) then n / d + 1 else n / d) else n / d
theorem abs_nat (x : Int) : (if x < 0 then -x else x) = (x.natAbs : Int) := by split <;> omega
theorem cutS_nat (t b : Int) (r : Bool) : cutS t b r = (csN t.natAbs b.natAbs r : Int) := by
  unfold cutS csN cutD
  rw [abs_nat, abs_nat, ← Int.ofNat_fdiv]
  have h : t.natAbs / b.natAbs * b.natAbs ≤ t.natAbs := Nat.div_mul_le_self ..
  have e : (t.natAbs : Int) - ((t.natAbs / b.natAbs : Nat) : Int) * (b.natAbs : Int) = ((t.natAbs - t.natAbs / b.natAbs * b.natAbs : Nat) : Int) := by
    rw [← Int.natCast_mul, Int.ofNat_sub h]
  rw [e]
  generalize t.natAbs - t.natAbs / b.natAbs * b.natAbs = z
  split
  · by_cases q : b.natAbs ≤ 2 * z
    · rw [if_pos q, if_pos (by omega)]; rfl
    · rw [if_neg q, if_neg (by omega)]
  · rfl
theorem cutQ_nat (t b : Int) : cutQ t b = if (decide (t < 0) != decide (b < 0)) = true then -((t.natAbs / b.natAbs : Nat) : Int) else ((t.natAbs / b.natAbs : Nat) : Int) := by
  unfold cutQ
  rw [abs_nat, abs_nat, ← Int.ofNat_fdiv]
theorem csN_scale {n d c : Nat} {r : Bool} (hc : 0 < c) : csN (n * c) (d * c) r = csN n d r := by
  unfold csN
  rw [Nat.mul_div_mul_right n d hc]
  have e : 2 * (n * c - n / d * (d * c)) = 2 * (n - n / d * d) * c := by
    rw [← Nat.mul_assoc, ← Nat.sub_mul, Nat.mul_assoc]
  rw [e]
  by_cases q : d ≤ 2 * (n - n / d * d)
  · rw [if_pos q, if_pos (Nat.mul_le_mul_right c q)]
  · rw [if_neg q, if_neg (fun z => q (Nat.le_of_mul_le_mul_right z hc))]
theorem csN_nest {n d H : Nat} {r : Bool} (hd : 0 < d) : csN (n / d) (2 * H) r = csN n (d * (2 * H)) r := by
  unfold csN
  rw [Nat.div_div_eq_div_mul]
  generalize hs : n / (d * (2 * H)) = s
  have h1 : s * (2 * H) ≤ n / d := by rw [← hs, ← Nat.div_div_eq_div_mul]; exact Nat.div_mul_le_self ..
  have h2 : s * (d * (2 * H)) ≤ n := by rw [← hs]; exact Nat.div_mul_le_self ..
  have key : 2 * H ≤ 2 * (n / d - s * (2 * H)) ↔ d * (2 * H) ≤ 2 * (n - s * (d * (2 * H))) := by
    have e1 : 2 * H ≤ 2 * (n / d - s * (2 * H)) ↔ s * (2 * H) + H ≤ n / d := by omega
    have e3 : s * (d * (2 * H)) = (s * (2 * H)) * d := by rw [Nat.mul_comm d, ← Nat.mul_assoc]
    have e4 : d * (2 * H) = 2 * (H * d) := by rw [Nat.mul_comm d, Nat.mul_assoc]
    rw [e1, Nat.le_div_iff_mul_le hd, Nat.add_mul]
    rw [e3] at h2 ⊢
    rw [e4]
    omega
  by_cases q : 2 * H ≤ 2 * (n / d - s * (2 * H))
  · rw [if_pos q, if_pos (key.mp q)]
  · rw [if_neg q, if_neg (fun z => q (key.mpr z))]
theorem csN_zero {d : Nat} {r : Bool} (hd : 0 < d) : csN 0 d r = 0 := by
  unfold csN
  rw [Nat.zero_div]
  split
  · rw [if_neg (by omega)]
  · rfl
theorem cutR_zero {b : Int} {r : Bool} (hb : b ≠ 0) : cutR 0 b r = 0 := by
  unfold cutR
  rw [cutS_nat, show (0 : Int).natAbs = 0 from rfl, csN_zero (by omega)]
  split <;> rfl
/-- numerator and denominator times the same -/
theorem cutR_scale {t b c : Int} {r : Bool} (hb : b ≠ 0) (hc : c ≠ 0) : cutR (t * c) (b * c) r = cutR t b r := by
  by_cases ht : t = 0
  · subst ht
    rw [Int.zero_mul, cutR_zero hb, cutR_zero (Int.mul_ne_zero hb hc)]
  · unfold cutR
    rw [cutS_nat, cutS_nat, Int.natAbs_mul, Int.natAbs_mul, csN_scale (by omega)]
    have e : (decide (t * c < 0) != decide (b * c < 0)) = (decide (t < 0) != decide (b < 0)) := by
      rcases Int.lt_or_gt_of_ne hc with hc | hc
      · have a1 : decide (t * c < 0) = !decide (t < 0) := by
          by_cases q : t < 0
          · have := Int.mul_pos_of_neg_of_neg q hc
            simp [q]; omega
          · have := Int.mul_neg_of_pos_of_neg (show 0 < t by omega) hc
            simp [q]; omega
        have a2 : decide (b * c < 0) = !decide (b < 0) := by
          by_cases q : b < 0
          · have := Int.mul_pos_of_neg_of_neg q hc
            simp [q]; omega
          · have := Int.mul_neg_of_pos_of_neg (show 0 < b by omega) hc
            simp [q]; omega
        rw [a1, a2]
        cases decide (t < 0) <;> cases decide (b < 0) <;> rfl
      · have a1 : decide (t * c < 0) = decide (t < 0) := by
          by_cases q : t < 0
          · have := Int.mul_neg_of_neg_of_pos q hc
            simp [q]; omega
          · have := Int.mul_pos (show 0 < t by omega) hc
            simp [q]; omega
        have a2 : decide (b * c < 0) = decide (b < 0) := by
          by_cases q : b < 0
          · have := Int.mul_neg_of_neg_of_pos q hc
            simp [q]; omega
          · have := Int.mul_pos (show 0 < b by omega) hc
            simp [q]; omega
        rw [a1, a2]
    rw [e]
/-- the cut hangs on the ratio alone -/
theorem cutR_ratio {t b t' b' : Int} {r : Bool} (hb : b ≠ 0) (hb' : b' ≠ 0) (h : t * b' = t' * b) : cutR t b r = cutR t' b' r := by
  rw [← cutR_scale (t := t) (r := r) hb hb', ← cutR_scale (t := t') (r := r) hb' hb, h, Int.mul_comm b b']
/-- cut twice is cut once -/
theorem cutR_nest {n d H : Int} {r : Bool} (hd : d ≠ 0) (hH : 0 < H) : cutR (cutQ n d) (2 * H) r = cutR n (d * (2 * H)) r := by
  have eb : (2 * H).natAbs = 2 * H.natAbs := by omega
  have e1 : (cutQ n d).natAbs = n.natAbs / d.natAbs := by rw [cutQ_nat]; generalize n.natAbs / d.natAbs = z; split <;> omega
  have key : csN (n.natAbs / d.natAbs) (2 * H.natAbs) r = csN n.natAbs (d.natAbs * (2 * H.natAbs)) r := csN_nest (by omega)
  by_cases hz : n.natAbs / d.natAbs = 0
  · have hq : cutQ n d = 0 := by omega
    rw [hq, cutR_zero (by omega)]
    have : csN n.natAbs (d.natAbs * (2 * H.natAbs)) r = 0 := by rw [← key, hz, csN_zero (by omega)]
    unfold cutR
    rw [cutS_nat, Int.natAbs_mul (b := 2 * H) (a := d), eb, this]
    split <;> rfl
  · unfold cutR
    rw [cutS_nat, cutS_nat, Int.natAbs_mul (b := 2 * H) (a := d), eb, e1, key]
    have hn : n ≠ 0 := fun e => hz (by rw [e]; exact Nat.zero_div _)
    have a2 : decide (d * (2 * H) < 0) = decide (d < 0) := by
      by_cases q : d < 0
      · have := Int.mul_neg_of_neg_of_pos q (show 0 < 2 * H by omega)
        simp [q]; omega
      · have := Int.mul_pos (show 0 < d by omega) (show 0 < 2 * H by omega)
        simp [q]; omega
    have a3 : decide (2 * H < 0) = false := by simp; omega
    have a1 : decide (cutQ n d < 0) = (decide (n < 0) != decide (d < 0)) := by
      rw [cutQ_nat]
      by_cases q : (decide (n < 0) != decide (d < 0)) = true
      · rw [if_pos q, q]; simp; omega
      · rw [if_neg q, Bool.not_eq_true] at *
        have z0 := Int.natCast_nonneg (n.natAbs / d.natAbs)
        rw [q]
        exact decide_eq_false (Int.not_lt.mpr z0)
    rw [a1, a2, a3]
    cases decide (n < 0) <;> cases decide (d < 0) <;> rfl
theorem decL_ratio : ∀ (n : Nat) (u : Int), (decL n u).1 * 10 ^ n = u * 10 ^ (decL n u).2.toNat ∧ 0 ≤ (decL n u).2
  | 0, u => ⟨rfl, Int.le_refl _⟩
  | n + 1, u => by
    unfold decL
    split
    · rename_i h
      obtain ⟨a, b⟩ := decL_ratio n (u.fdiv 10)
      refine ⟨?_, b⟩
      have hu : u = u.fdiv 10 * 10 := by
        have := Int.fmod_add_mul_fdiv u 10
        omega
      rw [Int.pow_succ, ← Int.mul_assoc, a]
      generalize decL n (u.fdiv 10) = z at *
      generalize u.fdiv 10 = v at *
      subst hu
      grind
    · refine ⟨?_, by show (0 : Int) ≤ (n : Int) + 1; omega⟩
      show u * 10 ^ (n + 1) = u * 10 ^ ((n : Int) + 1).toNat
      rw [show ((n : Int) + 1).toNat = n + 1 by omega]
theorem decP_ratio {u s : Int} (h0 : 0 ≤ s) : (decP u s).1 * 10 ^ s.toNat = u * 10 ^ (decP u s).2.toNat ∧ 0 ≤ (decP u s).2 := by
  unfold decP
  rw [if_neg (by omega)]
  exact decL_ratio _ _
theorem tn (k : Nat) : (10 : Int) ^ k ≠ 0 := Int.pow_ne_zero (by decide)
theorem own_ratio (h : Int) (x : Srt) : (decP h x.p).1 * (ownP h x).2 = (ownP h x).1 * 10 ^ (decP h x.p).2.toNat ∧ 0 ≤ (decP h x.p).2 ∧ (ownP h x).2 ≠ 0 := by
  refine ⟨?_, ?_, tn _⟩
  all_goals by_cases q : x.p < 0
  · unfold decP ownP
    rw [if_pos q]
    show h * 10 ^ (-x.p).toNat * 10 ^ (max 0 x.p).toNat = h * 10 ^ (max 0 (-x.p)).toNat * 10 ^ (0 : Int).toNat
    rw [Int.max_eq_left (Int.le_of_lt q), Int.max_eq_right (Int.le_of_lt (Int.neg_pos_of_neg q))]
  · obtain ⟨a, _⟩ := decP_ratio (u := h) (Int.not_lt.mp q)
    unfold ownP
    show (decP h x.p).1 * 10 ^ (max 0 x.p).toNat = h * 10 ^ (max 0 (-x.p)).toNat * 10 ^ (decP h x.p).2.toNat
    rw [Int.max_eq_right (Int.not_lt.mp q), Int.max_eq_left (Int.neg_nonpos_of_nonneg (Int.not_lt.mp q)), a, show (0 : Int).toNat = 0 from rfl, Int.pow_zero, Int.mul_one]
  · unfold decP
    rw [if_pos q]
    exact Int.le_refl _
  · exact (decP_ratio (u := h) (Int.not_lt.mp q)).2
theorem pow_split {m a : Int} (h : a ≤ m) (h0 : 0 ≤ a) : (10 : Int) ^ a.toNat * 10 ^ (m - a).toNat = 10 ^ m.toNat := by
  rw [← Int.pow_add, ← Int.toNat_add h0 (Int.sub_nonneg.mpr h), Int.add_comm, Int.sub_add_cancel]
/-- the row's ratio, the division apart -/
theorem way_ratio {a b o : Int × Int} {way : Way} (ha : a.1 * o.2 = o.1 * 10 ^ a.2.toNat) (a0 : 0 ≤ a.2) (b0 : 0 ≤ b.2) (ho : o.2 ≠ 0) (hw : way ≠ .div) :
    (wayP way a b).1 * (lrP way o (b.1, 10 ^ b.2.toNat)).2 = (lrP way o (b.1, 10 ^ b.2.toNat)).1 * 10 ^ (wayP way a b).2.toNat ∧ 0 ≤ (wayP way a b).2 ∧ (lrP way o (b.1, 10 ^ b.2.toNat)).2 ≠ 0 := by
  cases way with
  | put => exact ⟨rfl, b0, tn _⟩
  | div => exact absurd rfl hw
  | mul =>
    obtain ⟨e, n⟩ := decP_ratio (u := a.1 * b.1) (s := a.2 + b.2) (Int.add_nonneg a0 b0)
    refine ⟨?_, n, Int.mul_ne_zero ho (tn _)⟩
    show (decP (a.1 * b.1) (a.2 + b.2)).1 * (o.2 * 10 ^ b.2.toNat) = o.1 * b.1 * 10 ^ (decP (a.1 * b.1) (a.2 + b.2)).2.toNat
    rw [Int.toNat_add a0 b0, Int.pow_add] at e
    generalize (decP (a.1 * b.1) (a.2 + b.2)).1 = X at *
    generalize (10 : Int) ^ (decP (a.1 * b.1) (a.2 + b.2)).2.toNat = T at *
    refine Int.eq_of_mul_eq_mul_right (tn a.2.toNat) ?_
    generalize (10 : Int) ^ a.2.toNat = P at *
    generalize (10 : Int) ^ b.2.toNat = W at *
    grind
  | add =>
    obtain ⟨e, n⟩ := decP_ratio (u := (besP a b).1 + (besP a b).2.1) (s := (besP a b).2.2) (Int.le_trans a0 (Int.le_max_left _ _))
    refine ⟨?_, n, Int.mul_ne_zero ho (tn _)⟩
    show (decP ((besP a b).1 + (besP a b).2.1) (besP a b).2.2).1 * (o.2 * 10 ^ b.2.toNat) = (o.1 * 10 ^ b.2.toNat + b.1 * o.2) * 10 ^ (decP ((besP a b).1 + (besP a b).2.1) (besP a b).2.2).2.toNat
    have m1 := pow_split (m := max a.2 b.2) (a := a.2) (Int.le_max_left _ _) a0
    have m2 := pow_split (m := max a.2 b.2) (a := b.2) (Int.le_max_right _ _) b0
    refine Int.eq_of_mul_eq_mul_right (tn (max a.2 b.2).toNat) ?_
    generalize (10 : Int) ^ (decP ((besP a b).1 + (besP a b).2.1) (besP a b).2.2).2.toNat = T at *
    generalize (decP ((besP a b).1 + (besP a b).2.1) (besP a b).2.2).1 = X at *
    unfold besP at e
    dsimp only at e
    generalize (10 : Int) ^ (max a.2 b.2 - a.2).toNat = U at *
    generalize (10 : Int) ^ (max a.2 b.2 - b.2).toNat = V at *
    generalize (10 : Int) ^ (max a.2 b.2).toNat = M at *
    generalize (10 : Int) ^ a.2.toNat = P at *
    generalize (10 : Int) ^ b.2.toNat = W at *
    grind
  | sub =>
    obtain ⟨e, n⟩ := decP_ratio (u := (besP a b).1 - (besP a b).2.1) (s := (besP a b).2.2) (Int.le_trans a0 (Int.le_max_left _ _))
    refine ⟨?_, n, Int.mul_ne_zero ho (tn _)⟩
    show (decP ((besP a b).1 - (besP a b).2.1) (besP a b).2.2).1 * (o.2 * 10 ^ b.2.toNat) = (o.1 * 10 ^ b.2.toNat - b.1 * o.2) * 10 ^ (decP ((besP a b).1 - (besP a b).2.1) (besP a b).2.2).2.toNat
    have m1 := pow_split (m := max a.2 b.2) (a := a.2) (Int.le_max_left _ _) a0
    have m2 := pow_split (m := max a.2 b.2) (a := b.2) (Int.le_max_right _ _) b0
    refine Int.eq_of_mul_eq_mul_right (tn (max a.2 b.2).toNat) ?_
    generalize (10 : Int) ^ (decP ((besP a b).1 - (besP a b).2.1) (besP a b).2.2).2.toNat = T at *
    generalize (decP ((besP a b).1 - (besP a b).2.1) (besP a b).2.2).1 = X at *
    unfold besP at e
    dsimp only at e
    generalize (10 : Int) ^ (max a.2 b.2 - a.2).toNat = U at *
    generalize (10 : Int) ^ (max a.2 b.2 - b.2).toNat = V at *
    generalize (10 : Int) ^ (max a.2 b.2).toNat = M at *
    generalize (10 : Int) ^ a.2.toNat = P at *
    generalize (10 : Int) ^ b.2.toNat = W at *
    grind
theorem way_cut {a b o : Int × Int} {way : Way} {p : Int} {r : Bool} (ha : a.1 * o.2 = o.1 * 10 ^ a.2.toNat) (a0 : 0 ≤ a.2) (b0 : 0 ≤ b.2) (ho : o.2 ≠ 0) (hp : p ≤ 4) (hz : way = .div → b.1 ≠ 0) :
    (lrP way o (b.1, 10 ^ b.2.toNat)).2 ≠ 0 ∧ cutR ((wayP way a b).1 * 10 ^ (max 0 p).toNat) (10 ^ ((wayP way a b).2 + max 0 (-p)).toNat) r =
      cutR ((lrP way o (b.1, 10 ^ b.2.toNat)).1 * 10 ^ (max 0 p).toNat) ((lrP way o (b.1, 10 ^ b.2.toNat)).2 * 10 ^ (max 0 (-p)).toNat) r := by
  by_cases hw : way = .div
  · subst hw
    replace hz := hz rfl
    refine ⟨Int.mul_ne_zero ho hz, ?_⟩
    show cutR ((decP (cutQ (a.1 * 10 ^ (30 + b.2).toNat) (b.1 * 10 ^ a.2.toNat)) 30).1 * 10 ^ (max 0 p).toNat) (10 ^ ((decP (cutQ (a.1 * 10 ^ (30 + b.2).toNat) (b.1 * 10 ^ a.2.toNat)) 30).2 + max 0 (-p)).toNat) r =
      cutR (o.1 * 10 ^ b.2.toNat * 10 ^ (max 0 p).toNat) (o.2 * b.1 * 10 ^ (max 0 (-p)).toNat) r
    have hD : b.1 * 10 ^ a.2.toNat ≠ 0 := Int.mul_ne_zero hz (tn _)
    obtain ⟨e, n⟩ := decP_ratio (u := cutQ (a.1 * 10 ^ (30 + b.2).toNat) (b.1 * 10 ^ a.2.toNat)) (s := 30) (by decide)
    have nest := cutR_nest (n := a.1 * 10 ^ (30 + b.2).toNat) (d := b.1 * 10 ^ a.2.toNat) (H := 5 * 10 ^ ((25 : Nat) + (4 - (max 0 p).toNat)) * 10 ^ (max 0 (-p)).toNat) (r := r) hD
      (Int.mul_pos (Int.mul_pos (by decide) (Int.pow_pos (by decide))) (Int.pow_pos (by decide)))
    have e30 : (2 : Int) * (5 * 10 ^ ((25 : Nat) + (4 - (max 0 p).toNat)) * 10 ^ (max 0 (-p)).toNat) * 10 ^ (max 0 p).toNat = 10 ^ (30 : Int).toNat * 10 ^ (max 0 (-p)).toNat := by
      have : (10 : Int) ^ (30 : Int).toNat = 10 * 10 ^ ((25 : Nat) + (4 - (max 0 p).toNat)) * 10 ^ (max 0 p).toNat := by
        rw [← Int.pow_succ', ← Int.pow_add]
        congr 1
        have ht : (max 0 p).toNat ≤ 4 := Int.toNat_le.mpr (Int.max_le.mpr ⟨by decide, hp⟩)
        generalize (max 0 p).toNat = t at ht
        clear e n nest hD hz ha a0 b0 ho
        show 30 = _
        omega
      rw [this]
      grind
    have h2H : (2 : Int) * (5 * 10 ^ ((25 : Nat) + (4 - (max 0 p).toNat)) * 10 ^ (max 0 (-p)).toNat) ≠ 0 := Int.mul_ne_zero (by decide) (Int.mul_ne_zero (Int.mul_ne_zero (by decide) (tn _)) (tn _))
    generalize (2 : Int) * (5 * 10 ^ ((25 : Nat) + (4 - (max 0 p).toNat)) * 10 ^ (max 0 (-p)).toNat) = B at *
    generalize hq : cutQ (a.1 * 10 ^ (30 + b.2).toNat) (b.1 * 10 ^ a.2.toNat) = q at *
    have hF := tn (max 0 p).toNat
    have hG := tn (max 0 (-p)).toNat
    have hK := tn (30 : Int).toNat
    have s1 : cutR ((decP q 30).1 * 10 ^ (max 0 p).toNat) (10 ^ ((decP q 30).2 + max 0 (-p)).toNat) r = cutR q B r := by
      refine cutR_ratio (tn _) h2H ?_
      rw [Int.toNat_add n (Int.le_max_left _ _), Int.pow_add]
      generalize (10 : Int) ^ (decP q 30).2.toNat = T at *
      generalize (decP q 30).1 = X at *
      generalize (10 : Int) ^ (max 0 p).toNat = F at *
      generalize (10 : Int) ^ (max 0 (-p)).toNat = G at *
      generalize (10 : Int) ^ (30 : Int).toNat = K at *
      grind
    rw [s1, nest]
    refine cutR_ratio (Int.mul_ne_zero hD h2H) (Int.mul_ne_zero (Int.mul_ne_zero ho hz) hG) ?_
    have e3 : (10 : Int) ^ (30 + b.2).toNat = 10 ^ (30 : Int).toNat * 10 ^ b.2.toNat := by
      rw [← Int.pow_add, Int.toNat_add (by decide) b0]
    rw [e3]
    generalize (10 : Int) ^ (max 0 p).toNat = F at *
    generalize (10 : Int) ^ (max 0 (-p)).toNat = G at *
    generalize (10 : Int) ^ (30 : Int).toNat = K at *
    generalize (10 : Int) ^ a.2.toNat = P at *
    generalize (10 : Int) ^ b.2.toNat = W at *
    grind
  · obtain ⟨e, n, hl⟩ := way_ratio (b := b) ha a0 b0 ho hw
    refine ⟨hl, cutR_ratio (tn _) (Int.mul_ne_zero hl (tn _)) ?_⟩
    rw [Int.toNat_add n (Int.le_max_left _ _), Int.pow_add]
    generalize (10 : Int) ^ (wayP way a b).2.toNat = T at *
    generalize (wayP way a b).1 = X at *
    generalize (10 : Int) ^ (max 0 p).toNat = F at *
    generalize (10 : Int) ^ (max 0 (-p)).toNat = G at *
    grind
/-- a row: what the code keeps is what the law says -/
theorem row_law {S : Str → Srt} {wo : Int × Int} {r : RowP} {x : Str → Int} (ok : SrtOk (S r.nm)) (w0 : 0 ≤ wo.2) : rowF S wo r x = storeP x r.nm (rowP (x r.nm) (S r.nm) wo r.r r.way) := by
  obtain ⟨e1, e2, e3⟩ := own_ratio (x r.nm) (S r.nm)
  unfold rowF
  by_cases hz : r.way.isDiv = true ∧ wo.1 = 0
  · rw [if_pos hz]
    refine (storeP_none ?_).symm
    unfold rowP
    rw [if_pos]
    rw [Way.isDiv_iff.mp hz.1]
    show (ownP (x r.nm) (S r.nm)).2 * wo.1 = 0
    rw [hz.2, Int.mul_zero]
  · rw [if_neg hz]
    obtain ⟨l1, l2⟩ := way_cut (b := wo) (r := r.r) e1 e2 w0 e3 ok.p1 (fun hw q => hz ⟨Way.isDiv_iff.mpr hw, q⟩)
    unfold dueP rowP
    rw [if_neg l1, l2]
noncomputable def AllN (names : List Str) (P : Str → Prop) : Prop := ∀ nm ∈ names, P nm
theorem low_ne {a : Addr} (h : Lt 179 a) : (a == sysModules) = false := beq_eq_false_iff_ne.mpr (fun e => by
  have h1 : @Eq Nat a 1 := e
  omega)
section
variable {w : World} {A : Around} {E : Value → Shared → Prop} {s : Shared} {h₀ : Heap} {L : Addr} {m : Str → Option Value} {news : Led}
/-- dict(d): a new dict with the same pairs -/
theorem dict_copy {src : Addr} {o : Obj} {kvs : List (Str × Value)} {Q : Value → Shared → Prop} (F : Fr h₀ L s.heap m) (N : News h₀ L s.heap news) (hl : Lt 179 src) (hm : (src, o) ∈ news) (hd : o.IsDictOf (strKind PRG w) kvs) (hsz : kvs.length ≤ 3)
    (k : ∀ d h' o', Fr h₀ L h' m → News h₀ L h' ((d, o') :: news) → (∀ p ∈ news, p.1 < d) → o'.IsDictOf (strKind PRG w) kvs → Q (.ref d) { s with heap := h' }) :
    wpAny (model PRG w) A (call (.type "dict") [.ref src]) Q E s := by
  refine kt_call_dict (knd := strKind PRG w) (low_ne hl) (Heap.dictOf_iff.mpr ⟨o, (N _ hm).1, hd⟩) (by rw [sizeLine_eq]; omega) fun h' hm' hs => ?_
  obtain ⟨o', ho', hd'⟩ := Heap.dictOf_iff.mp hm'
  have N1 := News.push F N { cls := .type "dict", data := .dict #[] }
  exact k _ h' o' ((F.push _).change hs (N1 _ (.head _)).2.1 (N1.fresh (.head _))) (N1.setHead N.apart hs ho') (fun p hp => Heap.lt_size (N p hp).1) hd'
theorem hits_of {names : List Str} {x : Str → Int} {ka kb : List (Str × Value)} (hb : HeldOk names x kb) : ∀ (ra : List (Str × Value)), (∀ kv ∈ ra, kv.1 ∈ names ∧ ∃ t, kv.2 = .int (x kv.1) t) → KeqHits A s kb ra true
  | [], _ => .nil
  | (k, v) :: r, h => by
    obtain ⟨hk, t, ht⟩ := h _ (.head _)
    dsimp only at hk ht
    subst ht
    obtain ⟨u, hu⟩ := hb.vals k hk
    have e : SeqAt.EqAt A s (.int (x k) t) (.int (x k) u) true := by
      have := SeqAt.EqAt.int_int (A := A) (s := s) (x k) t (x k) u
      rwa [beq_self_eq_true] at this
    have z := KeqHits.hit (r := r) hu e (hits_of (ka := ka) hb r (fun kv hkv => h kv (.tail _ hkv)))
    exact z
theorem HeldOk.all {names : List Str} {x : Str → Int} {ka : List (Str × Value)} (hn : names.Nodup) (ha : HeldOk names x ka) : ∀ kv ∈ ka, kv.1 ∈ names ∧ ∃ t, kv.2 = .int (x kv.1) t := by
  intro kv hkv
  have h1 : kv.1 ∈ names := by rw [← ha.keys]; exact List.mem_map_of_mem hkv
  refine ⟨h1, ?_⟩
  obtain ⟨t, ht⟩ := ha.vals _ h1
  obtain ⟨i, hi⟩ := List.mem_iff_getElem?.mp hkv
  have := valueAt_of_get (kvs := ka) (by rw [ha.keys]; exact hn) (i := i) (k := kv.1) (v := kv.2) hi
  exact ⟨t, Option.some.inj (this.symm.trans ht)⟩
/-- two dicts with the same numbers -/
theorem held_eq {names : List Str} {x : Str → Int} {a b : Addr} {oa ob : Obj} {ka kb : List (Str × Value)} {Q : Value → Shared → Prop} (hn : names.Nodup) (N : News h₀ L s.heap news) (pa : (a, oa) ∈ news) (pb : (b, ob) ∈ news) (da : oa.IsDictOf (strKind PRG w) ka) (db : ob.IsDictOf (strKind PRG w) kb)
    (la : Lt 179 a) (lb : Lt 179 b) (ha : HeldOk names x ka) (hb : HeldOk names x kb) (hu : A.units < cLine) (h : Q (.bool true) s) :
    wpAny (model PRG w) A (compareOp .Eq (.ref a) (.ref b)) Q E s := by
  refine keq_eq (low_ne la) (low_ne lb) (Heap.dictOf_iff.mpr ⟨oa, (N _ pa).1, da⟩) (Heap.dictOf_iff.mpr ⟨ob, (N _ pb).1, db⟩) hu (fun _ => hits_of (ka := ka) hb ka (ha.all hn)) ?_
  have e : ka.length = kb.length := by
    have h1 := congrArg List.length ha.keys
    have h2 := congrArg List.length hb.keys
    rw [List.length_map] at h1 h2
    omega
  rw [e, beq_self_eq_true, Bool.and_true]
  exact h
/-- one of the names -/
theorem name_item {value slice : PySem.Expr} {na : Addr} {names : List Str} {nvs : List Value} {n : Nat} {d : Int} {k : Tok} {Q : Value → Shared → Prop} (N : News h₀ L s.heap news) (hm : (na, listO nvs n) ∈ news) (hn : NamesAt names nvs) (h0 : 0 ≤ d) (h1 : d < (nvs.length : Int))
    (h : ∀ nm t, nm ∈ names → Q (.str nm t) s)
    (hs : subscripted slice false (.ref na) (.int d k) = operate [.ref na, .int d k] (getItem (.ref na) (.int d k)) := by with_unfolding_all rfl) (hg : ∀ r, letTemporaryGo value (.ref na) r = pure () := by intro _; with_unfolding_all rfl) :
    wpAny (model PRG w) A (subscriptTail value slice (.ref na) (.int d k)) Q E s := by
  have hlt : d.toNat < nvs.length := by omega
  have hle := hn.hi
  have hln := hn.len
  obtain ⟨nm, t, e1, e2⟩ := hn.vals d.toNat nvs[d.toNat] (List.getElem?_eq_getElem hlt)
  exact item_listL (News.isList N hm) h0 (by omega) (List.getElem?_eq_getElem hlt) (by rw [e2]; exact h nm t (List.mem_of_getElem? e1)) hs hg
theorem name_itemP {value slice : PySem.Expr} {na : Addr} {names : List Str} {nvs : List Value} {n : Nat} {d : Int} {k : Tok} {P : Str → Prop} {Q : Value → Shared → Prop} (N : News h₀ L s.heap news) (hm : (na, listO nvs n) ∈ news) (hn : NamesAt names nvs) (hP : AllN names P)
    (h : ∀ nm t, nm ∈ names → P nm → Q (.str nm t) s)
    (hs : subscripted slice false (.ref na) (.int (d.fmod (nvs.length : Int)) k) = operate [.ref na, .int (d.fmod (nvs.length : Int)) k] (getItem (.ref na) (.int (d.fmod (nvs.length : Int)) k)) := by with_unfolding_all rfl) (hg : ∀ r, letTemporaryGo value (.ref na) r = pure () := by intro _; with_unfolding_all rfl) :
    wpAny (model PRG w) A (subscriptTail value slice (.ref na) (.int (d.fmod (nvs.length : Int)) k)) Q E s := by
  have hp : 0 < (nvs.length : Int) := by have := hn.len; have := hn.lo; omega
  exact name_item N hm hn (Int.fmod_nonneg_of_pos _ hp) (Int.fmod_lt_of_pos _ hp) (fun nm t hnm => h nm t hnm (hP nm hnm)) hs hg
theorem name_len {na : Addr} {names : List Str} {nvs : List Value} {n : Nat} {Q : Value → Shared → Prop} (N : News h₀ L s.heap news) (hm : (na, listO nvs n) ∈ news) (hn : NamesAt names nvs) (h : Q (.int (nvs.length : Int) (s.toks + 1)) { s with toks := s.toks + 1 + 1 }) :
    wpAny (model PRG w) A (call (.builtin "len") [.ref na]) Q E s := by
  have hle := hn.hi
  have hln := hn.len
  have e : (List.toArray nvs).size = nvs.length := List.size_toArray ..
  exact Calls.call_len_list (News.isList N hm) (by rw [e]; omega) (by rw [e]; exact h)
theorem NamesAt.len0 {names : List Str} {nvs : List Value} (hn : NamesAt names nvs) : (nvs.length : Int) ≠ 0 := by
  have := hn.len
  have := hn.lo
  omega
/-- one of the five ways -/
theorem way_item {value slice : PySem.Expr} {a : Addr} {d : Int} {k t1 t2 t3 t4 t5 : Tok} {Q : Value → Shared → Prop}
    (ht : IsTup s.heap a [Value.str (Str.ofString "=") t1, Value.str (Str.ofString "+") t2, Value.str (Str.ofString "-") t3, Value.str (Str.ofString "*") t4, Value.str (Str.ofString "/") t5].toArray) (h0 : 0 ≤ d) (h1 : d < 5)
    (h : ∀ (way : Way) t, Q (.str way.str t) s)
    (hs : subscripted slice false (.ref a) (.int d k) = operate [.ref a, .int d k] (getItem (.ref a) (.int d k)) := by with_unfolding_all rfl) :
    wpAny (model PRG w) A (subscriptTail value slice (.ref a) (.int d k)) Q E s := by
  have : d = 0 ∨ d = 1 ∨ d = 2 ∨ d = 3 ∨ d = 4 := by omega
  rcases this with rfl | rfl | rfl | rfl | rfl
  · exact item_tupleT ht (by decide) (by decide) (j := 0) rfl rfl (h .put _) hs
  · exact item_tupleT ht (by decide) (by decide) (j := 1) rfl rfl (h .add _) hs
  · exact item_tupleT ht (by decide) (by decide) (j := 2) rfl rfl (h .sub _) hs
  · exact item_tupleT ht (by decide) (by decide) (j := 3) rfl rfl (h .mul _) hs
  · exact item_tupleT ht (by decide) (by decide) (j := 4) rfl rfl (h .div _) hs
end
section
variable {w : World} {A : Around} {h₀ : Heap} {env : Env} {L : Addr}
/-- a for-loop over range(n), the ground fixed -/
theorem loopFR {r : Addr} {a b c : Int} {t u v : Tok} {n : Nat} {x : Str} {px : Pos} {body : List Stmt} {Q : Flow → Shared → Prop} {E : Value → Shared → Prop} {s : Shared} {m : Str → Option Value} {led : Led}
    (J : Nat → (Str → Option Value) → Led → Prop) (hh : A.handled = none) (hr : IsRange s.heap r a b c t u v) (hsmall : Builtin.Range.small a b c = true) (hn : Builtin.Range.rangeSize a b c = (n : Int)) (hx : env.kindOf x = some .local) (hL : env.locals = L)
    (hp : (env.scope.kind == .class || (env.scope.kind == .module && env.locals != env.globals)) = false)
    (F : Fr h₀ L s.heap m) (N : News h₀ L s.heap led) (h0 : J 0 m led)
    (turn : ∀ i j t h' tk m' led' I it, i < n → J i m' led' → Fr h₀ L h' (fun y => if y = x then some (.int j t) else m' y) → News h₀ L h' ((I, it) :: led') → (∀ q ∈ led', q.1 ≠ I) →
      wpAny (model PRG w) A (execs body env) (LoopEndF h₀ L I it (J (i + 1)) s) E { s with heap := h', toks := tk })
    (fin : ∀ h' tk m' led', J n m' led' → Fr h₀ L h' m' → News h₀ L h' led' → Q .next { s with heap := h', toks := tk })
    (hE : PassesOwn (model PRG w) A env E) :
    wpAny (model PRG w) A (pyIter (.ref r)) (fun it s₂ => codeAny (model PRG w) A (.forLoop (.Name x px) it body [] env) (fun r s' => match r with | .ok f => Q f s' | .error e => cameBackBy (model PRG w) A env E e s') s₂) E s := by
  refine wpAny_pyIter_range hr hsmall ?_
  refine loopF (s := { s with heap := s.heap.push { cls := .type "range_iterator", data := .fields #[rawInt a, rawInt (Builtin.Range.rangeSize a b c), rawInt c] } }) J (Walks.range hh _ a c n) (fun i h x => ⟨_, x⟩) (fun b hb => .inl (List.mem_singleton.mp hb)) hx hL hp
    (by show IsRangeIter _ _ _ _ _; rw [hn]; simpa using Heap.get?_push_size _ rfl) (F.push _) (News.push F N _) (fun q hq => Nat.ne_of_lt (Heap.lt_size (N q hq).1)) h0 ?_ fin hE
  rintro i v h' tk m' led' it hi ⟨t', rfl⟩ hJ F' N' n'
  exact turn i _ t' h' tk m' led' _ it hi hJ F' N' n'
end
theorem nat_of {d : Int} (h0 : 0 ≤ d) (h1 : d < 5) : ∃ k : Nat, d = (k : Int) ∧ k ≤ 4 := ⟨d.toNat, by omega, by omega⟩
theorem range4 {k : Nat} (h : k ≤ 4) : Builtin.Range.small 0 (k : Int) 1 = true ∧ Builtin.Range.rangeSize 0 (k : Int) 1 = (k : Int) := by
  exact (by decide +kernel : ∀ k : Nat, k < 5 → Builtin.Range.small 0 (k : Int) 1 = true ∧ Builtin.Range.rangeSize 0 (k : Int) 1 = (k : Int)) k (Nat.lt_succ_of_le h)
theorem units_bits {z : Int} (h0 : -100000 ≤ z) (h1 : z ≤ 100000) : Bits z 20 := intBits_le (by omega)
theorem worth_ok {u d : Int} (h : Bits u 20) (h0 : 0 ≤ d) (h1 : d < 7) : PairOk (decP u d) ∧ (decP u d).2 ≤ 6 := by
  obtain ⟨a, b, c⟩ := decP_ok h h0 (by omega)
  exact ⟨⟨Nat.le_trans a (by decide), b, by omega⟩, by omega⟩
theorem HeldOk.three {names : List Str} {nvs : List Value} {x : Str → Int} {kvs : List (Str × Value)} (h : HeldOk names x kvs) (hn : NamesAt names nvs) : kvs.length ≤ 3 := by
  have h1 := congrArg List.length h.keys
  rw [List.length_map] at h1
  have := hn.hi
  omega
noncomputable def rowsF (S : Str → Srt) (wo : Int × Int) (x0 : Str → Int) (rs : List RowA) : Bool × (Str → Int) := rs.foldl (run fun r => rowF S wo r.row) (false, x0)
theorem rowsF_snoc {S : Str → Srt} {wo : Int × Int} {x0 : Str → Int} {rs : List RowA} {r : RowA} {odd : Bool} {y : Str → Int} (h : rowsF S wo x0 rs = (odd, y)) : rowsF S wo x0 (rs ++ [r]) = (odd || (rowF S wo r.row y).1, (rowF S wo r.row y).2) := by
  unfold rowsF at h ⊢
  rw [List.foldl_append, h]
  rfl
theorem optV_split {o : Option Int} {v : Value} (h : optV o v) : (o = none ∧ v = .none) ∨ ∃ i k, o = some i ∧ v = .int i k := by
  cases o with
  | none => exact .inl ⟨rfl, h⟩
  | some i => obtain ⟨k, h⟩ := h; exact .inr ⟨i, k, rfl, h⟩
noncomputable abbrev rowsL (hdA sd na pa wa du rl : Addr) (oH oS oD : Obj) (nvs vs vsr : List Value) (n rn : Nat) (wo : Int × Int) (wt wu : Tok) (extra : Led) : Led :=
  (rl, listO vsr rn) :: (du, oD) :: (wa, tup2 wo.1 wo.2 wt wu) :: (hdA, oH) :: (sd, oS) :: (na, listO nvs 0) :: (pa, listO vs n) :: tab0 :: extra
noncomputable abbrev mRow (mm : Str → Option Value) (b : Bool) (z1 z2 z3 z4 z5 : Option Value) : Str → Option Value :=
  setM "told" z5 (setM "way" z4 (setM "is_rounded" z3 (setM "name" z2 (setM "turn" z1 (setM "is_odd" (some (.bool b)) mm)))))
theorem mRow_of {m mm : Str → Option Value} {b : Bool} (hb : m (Str.ofString "is_odd") = some (.bool b))
    (h : ∀ y, y ≠ Str.ofString "told" → y ≠ Str.ofString "way" → y ≠ Str.ofString "is_rounded" → y ≠ Str.ofString "name" → y ≠ Str.ofString "turn" → y ≠ Str.ofString "is_odd" → m y = mm y) :
    m = mRow mm b (m (Str.ofString "turn")) (m (Str.ofString "name")) (m (Str.ofString "is_rounded")) (m (Str.ofString "way")) (m (Str.ofString "told")) := by
  funext y
  by_cases a1 : y = Str.ofString "told"
  · show m y = if y = Str.ofString "told" then m (Str.ofString "told") else _
    rw [if_pos a1, a1]
  show m y = if y = Str.ofString "told" then m (Str.ofString "told") else if y = Str.ofString "way" then m (Str.ofString "way") else if y = Str.ofString "is_rounded" then m (Str.ofString "is_rounded") else if y = Str.ofString "name" then m (Str.ofString "name") else if y = Str.ofString "turn" then m (Str.ofString "turn") else if y = Str.ofString "is_odd" then some (.bool b) else mm y
  rw [if_neg a1]
  by_cases a2 : y = Str.ofString "way"
  · rw [if_pos a2, a2]
  rw [if_neg a2]
  by_cases a3 : y = Str.ofString "is_rounded"
  · rw [if_pos a3, a3]
  rw [if_neg a3]
  by_cases a4 : y = Str.ofString "name"
  · rw [if_pos a4, a4]
  rw [if_neg a4]
  by_cases a5 : y = Str.ofString "turn"
  · rw [if_pos a5, a5]
  rw [if_neg a5]
  by_cases a6 : y = Str.ofString "is_odd"
  · rw [if_pos a6, a6, hb]
  rw [if_neg a6]
  exact h y a1 a2 a3 a4 a5 a6
inductive J8 (w : World) (names : List Str) (S : Str → Srt) (wo : Int × Int) (x0 : Str → Int) (hdA sd na pa wa du rl : Addr) (oH oS : Obj) (nvs : List Value) (wt wu : Tok) (mm : Str → Option Value) (i : Nat) (m : Str → Option Value) (led : Led) : Prop
  | mk (rs : List RowA) (extra : Led) (vs : List Value) (n : Nat) (oD : Obj) (kvsD : List (Str × Value)) (rn : Nat) (odd : Bool) (y : Str → Int) (z1 z2 z3 z4 z5 : Option Value) (c0 : rs.length = i) (c1 : rowsF S wo x0 rs = (odd, y)) (c2 : PoolAt vs) (c3 : oD.IsDictOf (strKind PRG w) kvsD) (c4 : HeldOk names y kvsD) (c5 : (∀ r ∈ rs, RowAt extra names r)) (c6 : (∀ p ∈ extra, Lt rl p.1)) (c7 : led = rowsL hdA sd na pa wa du rl oH oS oD nvs vs (rs.map fun r => Value.ref r.ra) n rn wo wt wu extra) (c8 : m = mRow mm odd z1 z2 z3 z4 z5) : J8 w names S wo x0 hdA sd na pa wa du rl oH oS nvs wt wu mm i m led
theorem mRow_turn {mm : Str → Option Value} {odd : Bool} {j : Int} {t : Tok} {z1 z2 z3 z4 z5 : Option Value} : (fun y => if y = PySem.Str.ofString "turn" then some (Value.int j t) else mRow mm odd z1 z2 z3 z4 z5 y) = mRow mm odd (some (.int j t)) z2 z3 z4 z5 := by
  funext y
  by_cases a5 : y = Str.ofString "turn"
  · rw [if_pos a5, a5]
    show _ = if Str.ofString "turn" = Str.ofString "told" then z5 else if Str.ofString "turn" = Str.ofString "way" then z4 else if Str.ofString "turn" = Str.ofString "is_rounded" then z3 else if Str.ofString "turn" = Str.ofString "name" then z2 else if Str.ofString "turn" = Str.ofString "turn" then some (Value.int j t) else _
    rw [if_neg (by decide), if_neg (by decide), if_neg (by decide), if_neg (by decide), if_pos rfl]
  · rw [if_neg a5]
    show (if y = Str.ofString "told" then z5 else if y = Str.ofString "way" then z4 else if y = Str.ofString "is_rounded" then z3 else if y = Str.ofString "name" then z2 else if y = Str.ofString "turn" then z1 else if y = Str.ofString "is_odd" then some (.bool odd) else mm y) =
      (if y = Str.ofString "told" then z5 else if y = Str.ofString "way" then z4 else if y = Str.ofString "is_rounded" then z3 else if y = Str.ofString "name" then z2 else if y = Str.ofString "turn" then some (Value.int j t) else if y = Str.ofString "is_odd" then some (.bool odd) else mm y)
    rw [if_neg a5, if_neg a5]
section
variable {w : World} {A : Around} {h₀ : Heap} {env : Env} {L : Addr}
theorem loop2_rule {names : List Str} {S : Str → Srt} {wo : Int × Int} {x0 : Str → Int} {hdA sd na pa wa du rl : Addr} {oH oS oD : Obj} {nvs vs : List Value} {n rn : Nat} {kvsD kvsS : List (Str × Value)} {wt wu : Tok} {mm : Str → Option Value}
    {r : Addr} {a b c : Int} {t u v : Tok} {k : Nat} {px : Pos} {body : List Stmt} {Q : Flow → Shared → Prop} {E : Value → Shared → Prop} {s : Shared}
    (F : Fr h₀ L s.heap (setM "is_odd" (some (.bool false)) mm)) (N : News h₀ L s.heap (rowsL hdA sd na pa wa du rl oH oS oD nvs vs [] n rn wo wt wu []))
    (hh : A.handled = none) (hr : IsRange s.heap r a b c t u v) (hsmall : Builtin.Range.small a b c = true) (hk : Builtin.Range.rangeSize a b c = (k : Int)) (hk4 : k ≤ 4) (hx : env.kindOf (PySem.Str.ofString "turn") = some .local) (hL : env.locals = L)
    (hp : (env.scope.kind == .class || (env.scope.kind == .module && env.locals != env.globals)) = false)
    (hP : PoolAt vs) (hd : oD.IsDictOf (strKind PRG w) kvsD) (ok : HeldOk names x0 kvsD) (hn : NamesAt names nvs)
    (okS : SortsOk w [] names S kvsS) (n1 : Lt pa na) (n2 : Lt na sd) (n3 : Lt sd hdA) (n5 : Lt hdA du) (n6 : Lt du rl)
    (turn : ∀ i j t h' tk I it rs extra vs vsr n oD kvsD rn odd y z2 z3 z4 z5, i < k → rs.length = i → vsr = rs.map (fun r => Value.ref r.ra) → vsr.length ≤ 3 → rowsF S wo x0 rs = (odd, y) → PoolAt vs → oD.IsDictOf (strKind PRG w) kvsD → kvsD.length ≤ 3 → HeldOk names y kvsD →
      AllN names (fun nm => ∃ sa t0, valueAt kvsS nm = some (.ref sa) ∧ SrtAt w [] sa (S nm) ∧ SrtOk (S nm) ∧ valueAt kvsD nm = some (.int (y nm) t0) ∧ Bits (y nm) 30) → (∀ r ∈ rs, RowAt extra names r) → (∀ p ∈ extra, Lt rl p.1) →
      (∀ p ∈ extra, p.1 ≠ rl) → (∀ p ∈ extra, p.1 ≠ du) → (∀ p ∈ extra, p.1 ≠ pa) → (∀ p ∈ extra, p.1 ≠ I) → @Ne Nat rl I → @Ne Nat du I → @Ne Nat wa I → @Ne Nat hdA I → @Ne Nat sd I → @Ne Nat na I → @Ne Nat pa I → @Ne Nat 179 I →
      Fr h₀ L h' (mRow mm odd (some (.int j t)) z2 z3 z4 z5) → News h₀ L h' ((I, it) :: rowsL hdA sd na pa wa du rl oH oS oD nvs vs vsr n rn wo wt wu extra) →
      wpAny (model PRG w) A (execs body env) (LoopEndF h₀ L I it (J8 w names S wo x0 hdA sd na pa wa du rl oH oS nvs wt wu mm (i + 1)) s) E { s with heap := h', toks := tk })
    (fin : ∀ h' tk rs extra vs n oD kvsD rn odd y z1 z2 z3 z4 z5, rowsF S wo x0 rs = (odd, y) → PoolAt vs → oD.IsDictOf (strKind PRG w) kvsD → HeldOk names y kvsD → (∀ r ∈ rs, RowAt extra names r) → (∀ p ∈ extra, Lt rl p.1) →
      Fr h₀ L h' (mRow mm odd z1 z2 z3 z4 z5) → News h₀ L h' (rowsL hdA sd na pa wa du rl oH oS oD nvs vs (rs.map fun r => Value.ref r.ra) n rn wo wt wu extra) → Q .next { s with heap := h', toks := tk })
    (hE : PassesOwn (model PRG w) A env E) :
    wpAny (model PRG w) A (pyIter (.ref r)) (fun it s₂ => codeAny (model PRG w) A (.forLoop (.Name (PySem.Str.ofString "turn") px) it body [] env) (fun r s' => match r with | .ok f => Q f s' | .error e => cameBackBy (model PRG w) A env E e s') s₂) E s := by
  refine loopFR (J8 w names S wo x0 hdA sd na pa wa du rl oH oS nvs wt wu mm) hh hr hsmall hk hx hL hp F N ?h0 ?turn ?fin hE
  case h0 =>
    refine ⟨[], [], vs, n, oD, kvsD, rn, false, x0, _, _, _, _, _, rfl, rfl, hP, hd, ok, fun _ h => (nomatch h), fun _ h => (nomatch h), rfl, mRow_of (if_pos rfl) (fun y _ _ _ _ _ a => if_neg a)⟩
  case turn =>
    rintro i j t h' tk m' led' I it hi ⟨rs, extra, vs, n, oD, kvsD, rn, odd, y, z1, z2, z3, z4, z5, hlen, hf, hP, hd, ok, hrs, hex, rfl, rfl⟩ F' N' nI
    have nE : ∀ p ∈ extra, p.1 ≠ I := fun p hp => nI p (.tail _ (.tail _ (.tail _ (.tail _ (.tail _ (.tail _ (.tail _ (.tail _ hp))))))))
    refine turn i j t h' tk I it rs extra vs _ n oD kvsD rn odd y z2 z3 z4 z5 hi hlen rfl (by rw [List.length_map]; omega) hf hP hd ?_ ok ?_ hrs hex (fun p hp e => ?_) (fun p hp e => ?_) (fun p hp e => ?_) nE
      (nI _ (.head _)) (nI _ (.tail _ (.head _))) (nI _ (.tail _ (.tail _ (.head _)))) (nI _ (.tail _ (.tail _ (.tail _ (.head _))))) (nI _ (.tail _ (.tail _ (.tail _ (.tail _ (.head _)))))) (nI _ (.tail _ (.tail _ (.tail _ (.tail _ (.tail _ (.head _)))))))
      (nI _ (.tail _ (.tail _ (.tail _ (.tail _ (.tail _ (.tail _ (.head _)))))))) (nI _ (.tail _ (.tail _ (.tail _ (.tail _ (.tail _ (.tail _ (.tail _ (.head _))))))))) ?_ N'
    · have h1 := congrArg List.length ok.keys
      rw [List.length_map] at h1
      have := hn.hi
      omega
    · intro nm hm
      obtain ⟨sa, s1, s2⟩ := okS.vals nm hm
      obtain ⟨t0, v0⟩ := ok.vals nm hm
      exact ⟨sa, t0, s1, s2, okS.ok nm hm, v0, ok.bits nm hm⟩
    · have := hex p hp
      have e' : @Eq Nat p.1 rl := e
      omega
    · have := hex p hp
      have e' : @Eq Nat p.1 du := e
      omega
    · have := hex p hp
      have e' : @Eq Nat p.1 pa := e
      omega
    · exact mRow_turn ▸ F'
  case fin =>
    rintro h' tk m' led' ⟨rs, extra, vs, n, oD, kvsD, rn, odd, y, z1, z2, z3, z4, z5, hlen, hf, hP, hd, ok, hrs, hex, rfl, rfl⟩ F' N'
    exact fin h' tk rs extra vs n oD kvsD rn odd y z1 z2 z3 z4 z5 hf hP hd ok hrs hex F' N'
theorem end8 {names : List Str} {S : Str → Srt} {wo : Int × Int} {x0 y y' : Str → Int} {hdA sd na pa wa du rl I ra qa : Addr} {oH oS oD it : Obj} {nvs vs vsr : List Value} {n rn tk i : Nat} {kvsD : List (Str × Value)} {wt wu k k1 k2 : Tok} {mm m8 : Str → Option Value} {more extra : Led} {rs : List RowA}
    {odd b c rd : Bool} {nm : Str} {way : Way} {h2 : Heap} {s : Shared}
    (hlen : rs.length = i) (hvr : vsr = rs.map (fun r => Value.ref r.ra)) (hf : rowsF S wo x0 rs = (odd, y)) (hP : PoolAt vs) (hrs : ∀ r ∈ rs, RowAt extra names r) (hex : ∀ p ∈ extra, Lt rl p.1) (hnm : nm ∈ names) (ow : PairOk wo) (oks : SrtOk (S nm))
    (F : Fr h₀ L h2 m8) (hb : m8 (Str.ofString "is_odd") = some (.bool b))
    (hm : ∀ y, y ≠ Str.ofString "told" → y ≠ Str.ofString "way" → y ≠ Str.ofString "is_rounded" → y ≠ Str.ofString "name" → y ≠ Str.ofString "turn" → y ≠ Str.ofString "is_odd" → m8 y = mm y)
    (hrow : storeP y nm (rowP (y nm) (S nm) wo rd way) = (c, y')) (hbc : b = (odd || c)) (hd : oD.IsDictOf (strKind PRG w) kvsD) (ok : HeldOk names y' kvsD)
    (N : News h₀ L h2 more) (hsub : ∀ q ∈ (I, it) :: rowsL hdA sd na pa wa du rl oH oS oD nvs vs (vsr ++ [.ref ra]) n rn wo wt wu ((ra, tupR qa rd way k) :: (qa, tupQ nm k1 k2) :: extra), q ∈ more)
    (l1 : Lt rl ra) (l2 : Lt rl qa) (nE : ∀ p ∈ extra, p.1 ≠ I) (n1 : @Ne Nat rl I) (n2 : @Ne Nat du I) (n3 : @Ne Nat wa I) (n4 : @Ne Nat hdA I) (n5 : @Ne Nat sd I) (n6 : @Ne Nat na I) (n7 : @Ne Nat pa I) (n8 : @Ne Nat 179 I) (n9 : @Ne Nat ra I) (n10 : @Ne Nat qa I) :
    LoopEndF h₀ L I it (J8 w names S wo x0 hdA sd na pa wa du rl oH oS nvs wt wu mm (i + 1)) s .next { s with heap := h2, toks := tk } := by
  refine ⟨rfl, h2, tk, m8, rowsL hdA sd na pa wa du rl oH oS oD nvs vs (vsr ++ [.ref ra]) n rn wo wt wu ((ra, tupR qa rd way k) :: (qa, tupQ nm k1 k2) :: extra), rfl, F, news_sub N hsub, ?_, rs ++ [⟨ra, qa, ⟨nm, rd, way⟩, k, k1, k2⟩], (ra, tupR qa rd way k) :: (qa, tupQ nm k1 k2) :: extra, vs, n, oD, kvsD, rn, odd || c, y', _, _, _, _, _, ?_, ?_, hP, hd, ok, ?_, ?_, ?_, mRow_of (hbc ▸ hb) hm⟩
  · intro q hq
    rcases List.mem_cons.mp hq with rfl | hq
    · exact n1
    rcases List.mem_cons.mp hq with rfl | hq
    · exact n2
    rcases List.mem_cons.mp hq with rfl | hq
    · exact n3
    rcases List.mem_cons.mp hq with rfl | hq
    · exact n4
    rcases List.mem_cons.mp hq with rfl | hq
    · exact n5
    rcases List.mem_cons.mp hq with rfl | hq
    · exact n6
    rcases List.mem_cons.mp hq with rfl | hq
    · exact n7
    rcases List.mem_cons.mp hq with rfl | hq
    · exact n8
    rcases List.mem_cons.mp hq with rfl | hq
    · exact n9
    rcases List.mem_cons.mp hq with rfl | hq
    · exact n10
    exact nE q hq
  · rw [List.length_append, hlen]; rfl
  · rw [rowsF_snoc hf, row_law (r := ⟨nm, rd, way⟩) oks ow.lo, hrow]
  · intro r hr
    rcases List.mem_append.mp hr with hr | hr
    · obtain ⟨a1, a2, a3⟩ := hrs r hr
      exact ⟨.tail _ (.tail _ a1), .tail _ (.tail _ a2), a3⟩
    · rw [List.mem_singleton.mp hr]
      exact ⟨.head _, .tail _ (.head _), hnm⟩
  · intro p hp
    rcases List.mem_cons.mp hp with rfl | hp
    · exact l1
    rcases List.mem_cons.mp hp with rfl | hp
    · exact l2
    exact hex p hp
  · rw [List.map_append, ← hvr]; rfl
end
theorem or_t {b : Bool} (h : b = true) : b = (b || true) := by rw [h]; rfl
theorem or_tt {b : Bool} : true = (b || true) := by cases b <;> rfl
theorem or_s {b : Bool} : b = (b || false) := by cases b <;> rfl
theorem or_f {b : Bool} (h : b = false) : false = (b || false) := by rw [h]; rfl
theorem upd_same {y : Str → Int} {nm : Str} : upd y nm (y nm) = y := by
  funext x
  unfold upd
  by_cases h : x = nm
  · rw [if_pos h, h]
  · rw [if_neg h]
theorem rowP_bits {h i : Int} {x : Srt} {wo : Int × Int} {r : Bool} {way : Way} (ok : SrtOk x) (e : rowP h x wo r way = some i) : Bits i 30 := by
  unfold rowP at e
  by_cases hz : (lrP way (ownP h x) (wo.1, 10 ^ wo.2.toNat)).2 = 0
  · rw [if_pos hz] at e; cases e
  · rw [if_neg hz] at e; exact fitP_bits ok e
noncomputable abbrev ledT (hdA sd na pa wa du rl ra qa I : Addr) (oH oS oD it : Obj) (nvs vs vsr : List Value) (n rn : Nat) (wo : Int × Int) (wt wu k k1 k2 : Tok) (rd : Bool) (nm : Str) (way : Way) (q3 q4 : Addr × Obj) (extra : Led) : Led :=
  (ra, tupR qa rd way k) :: (qa, tupQ nm k1 k2) :: q3 :: q4 :: (I, it) :: (rl, listOf (vsr.toArray.push (.ref ra)) rn) :: (du, oD) :: (wa, tup2 wo.1 wo.2 wt wu) :: (hdA, oH) :: (sd, oS) :: (na, listO nvs 0) :: (pa, listO vs n) :: tab0 :: extra
theorem mm_of {mm : Str → Option Value} {b odd : Bool} {zt zw zn zr z1 z2 z3 z4 z5 : Option Value} : ∀ y, y ≠ Str.ofString "told" → y ≠ Str.ofString "way" → y ≠ Str.ofString "is_rounded" → y ≠ Str.ofString "name" → y ≠ Str.ofString "turn" → y ≠ Str.ofString "is_odd" →
    (setM "is_odd" (some (.bool b)) (setM "told" zt (setM "way" zw (setM "name" zn (setM "is_rounded" zr (mRow mm odd z1 z2 z3 z4 z5)))))) y = mm y := by
  intro y a1 a2 a3 a4 a5 a6
  show (if y = Str.ofString "is_odd" then some (.bool b) else if y = Str.ofString "told" then zt else if y = Str.ofString "way" then zw else if y = Str.ofString "name" then zn else if y = Str.ofString "is_rounded" then zr else
    if y = Str.ofString "told" then z5 else if y = Str.ofString "way" then z4 else if y = Str.ofString "is_rounded" then z3 else if y = Str.ofString "name" then z2 else if y = Str.ofString "turn" then z1 else if y = Str.ofString "is_odd" then some (.bool odd) else mm y) = mm y
  rw [if_neg a6, if_neg a1, if_neg a2, if_neg a4, if_neg a3, if_neg a1, if_neg a2, if_neg a3, if_neg a4, if_neg a5, if_neg a6]
section
variable {w : World} {h₀ h2 : Heap} {L : Addr} {s : Shared} {tk i : Nat}
variable {names : List Str} {S : Str → Srt} {wo : Int × Int} {x0 y : Str → Int} {hdA sd na pa wa du rl I ra qa : Addr} {oH oS oD it : Obj} {nvs vs vsr : List Value} {n rn : Nat} {kvsD : List (Str × Value)} {wt wu k k1 k2 k5 : Tok} {mm : Str → Option Value} {extra : Led} {rs : List RowA}
    {odd b rd : Bool} {nm : Str} {way : Way} {zt zw zn zr z1 z2 z3 z4 z5 : Option Value} {q3 q4 : Addr × Obj}
theorem led8_sub : ∀ p ∈ (I, it) :: rowsL hdA sd na pa wa du rl oH oS oD nvs vs (vsr ++ [.ref ra]) n rn wo wt wu ((ra, tupR qa rd way k) :: (qa, tupQ nm k1 k2) :: extra), p ∈ ledT hdA sd na pa wa du rl ra qa I oH oS oD it nvs vs vsr n rn wo wt wu k k1 k2 rd nm way q3 q4 extra := fun p hp => by
  have e : (rl, listO (vsr ++ [.ref ra]) rn) = (rl, listOf (vsr.toArray.push (.ref ra)) rn) := by rw [List.push_toArray]
  rcases List.mem_cons.mp hp with rfl | hp
  · exact .tail _ (.tail _ (.tail _ (.tail _ (.head _))))
  rcases List.mem_cons.mp hp with rfl | hp
  · rw [e]; exact .tail _ (.tail _ (.tail _ (.tail _ (.tail _ (.head _)))))
  have hp' : p ∈ [(du, oD), (wa, tup2 wo.1 wo.2 wt wu), (hdA, oH), (sd, oS), (na, listO nvs 0), (pa, listO vs n), tab0] ++ (ra, tupR qa rd way k) :: (qa, tupQ nm k1 k2) :: extra := hp
  rcases List.mem_append.mp hp' with hp | hp
  · exact .tail _ (.tail _ (.tail _ (.tail _ (.tail _ (.tail _ (List.mem_append_left extra hp))))))
  rcases List.mem_cons.mp hp with rfl | hp
  · exact .head _
  rcases List.mem_cons.mp hp with rfl | hp
  · exact .tail _ (.head _)
  · exact .tail _ (.tail _ (.tail _ (.tail _ (.tail _ (.tail _ (List.mem_append_right [(du, oD), (wa, tup2 wo.1 wo.2 wt wu), (hdA, oH), (sd, oS), (na, listO nvs 0), (pa, listO vs n), tab0] hp))))))
theorem end8n (q : rowP (y nm) (S nm) wo rd way = none)
    (F : Fr h₀ L h2 (setM "is_odd" (some (.bool b)) (setM "told" zt (setM "way" zw (setM "name" zn (setM "is_rounded" zr (mRow mm odd z1 z2 z3 z4 z5)))))))
    (N : News h₀ L h2 (ledT hdA sd na pa wa du rl ra qa I oH oS oD it nvs vs vsr n rn wo wt wu k k1 k2 rd nm way q3 q4 extra))
    (hd : oD.IsDictOf (strKind PRG w) (stored kvsD nm (.int (y nm) k5))) (hbc : b = (odd || true)) (hnm : nm ∈ names) (oks : SrtOk (S nm)) (hP : PoolAt vs)
    (hlen : rs.length = i) (hvr : vsr = rs.map (fun r => Value.ref r.ra)) (hf : rowsF S wo x0 rs = (odd, y)) (hrs : ∀ r ∈ rs, RowAt extra names r) (hex : ∀ p ∈ extra, Lt rl p.1) (ow : PairOk wo) (ok : HeldOk names y kvsD)
    (l1 : Lt rl ra) (l2 : Lt rl qa) (nE : ∀ p ∈ extra, p.1 ≠ I) (n1 : @Ne Nat rl I) (n2 : @Ne Nat du I) (n3 : @Ne Nat wa I) (n4 : @Ne Nat hdA I) (n5 : @Ne Nat sd I) (n6 : @Ne Nat na I) (n7 : @Ne Nat pa I) (n8 : @Ne Nat 179 I) (n9 : @Ne Nat ra I) (n10 : @Ne Nat qa I) :
    LoopEndF h₀ L I it (J8 w names S wo x0 hdA sd na pa wa du rl oH oS nvs wt wu mm (i + 1)) s .next { s with heap := h2, toks := tk } := by
  have ok' := ok.store (t := k5) hnm (ok.bits nm hnm)
  rw [upd_same] at ok'
  refine end8 (c := true) (y' := y) (k := k) (k1 := k1) (k2 := k2) (rn := rn) (n := n) hlen hvr hf hP hrs hex hnm ow oks F (if_pos rfl) mm_of (storeP_none q) hbc hd ok' N led8_sub l1 l2 nE n1 n2 n3 n4 n5 n6 n7 n8 n9 n10
theorem end8s {v : Int} (q : rowP (y nm) (S nm) wo rd way = some v)
    (F : Fr h₀ L h2 (setM "is_odd" (some (.bool b)) (setM "told" zt (setM "way" zw (setM "name" zn (setM "is_rounded" zr (mRow mm odd z1 z2 z3 z4 z5)))))))
    (N : News h₀ L h2 (ledT hdA sd na pa wa du rl ra qa I oH oS oD it nvs vs vsr n rn wo wt wu k k1 k2 rd nm way q3 q4 extra))
    (hd : oD.IsDictOf (strKind PRG w) (stored kvsD nm (.int v k5))) (hbc : b = (odd || false)) (hnm : nm ∈ names) (oks : SrtOk (S nm)) (hP : PoolAt vs)
    (hlen : rs.length = i) (hvr : vsr = rs.map (fun r => Value.ref r.ra)) (hf : rowsF S wo x0 rs = (odd, y)) (hrs : ∀ r ∈ rs, RowAt extra names r) (hex : ∀ p ∈ extra, Lt rl p.1) (ow : PairOk wo) (ok : HeldOk names y kvsD)
    (l1 : Lt rl ra) (l2 : Lt rl qa) (nE : ∀ p ∈ extra, p.1 ≠ I) (n1 : @Ne Nat rl I) (n2 : @Ne Nat du I) (n3 : @Ne Nat wa I) (n4 : @Ne Nat hdA I) (n5 : @Ne Nat sd I) (n6 : @Ne Nat na I) (n7 : @Ne Nat pa I) (n8 : @Ne Nat 179 I) (n9 : @Ne Nat ra I) (n10 : @Ne Nat qa I) :
    LoopEndF h₀ L I it (J8 w names S wo x0 hdA sd na pa wa du rl oH oS nvs wt wu mm (i + 1)) s .next { s with heap := h2, toks := tk } := by
  have ok' := ok.store (t := k5) hnm (rowP_bits oks q)
  refine end8 (c := false) (y' := upd y nm v) (k := k) (k1 := k1) (k2 := k2) (rn := rn) (n := n) hlen hvr hf hP hrs hex hnm ow oks F (if_pos rfl) mm_of (storeP_some q) hbc hd ok' N led8_sub l1 l2 nE n1 n2 n3 n4 n5 n6 n7 n8 n9 n10
end
section
variable {s₀ : Shared} {h₀ h : Heap} {L : Addr} {m : Str → Option Value} {tk : Nat}
theorem zero_bits : Bits 0 20 := intBits_le (by decide)
theorem ne_of_obj {a b : Addr} {o1 o2 : Obj} {news : Led} (N : News h₀ L h news) (h1 : (a, o1) ∈ news) (h2 : (b, o2) ∈ news) (hne : o1 ≠ o2) : @Ne Nat a b := fun e => by
  subst e
  exact hne (Option.some.inj ((N _ h1).1.symm.trans (N _ h2).1))
theorem setM_swap {a b : String} {v u : Option Value} {m : Str → Option Value} (h : Str.ofString a ≠ Str.ofString b) : setM a v (setM b u m) = setM b u (setM a v m) := by
  funext y
  show (if y = Str.ofString a then v else if y = Str.ofString b then u else m y) = if y = Str.ofString b then u else if y = Str.ofString a then v else m y
  by_cases h1 : y = Str.ofString a
  · rw [if_pos h1, if_neg (fun e => h (h1.symm.trans e)), if_pos h1]
  · rw [if_neg h1, if_neg h1]
theorem end6 {w : World} {u d : Int} {n : Nat} {vs nvs : List Value} {pa na hdA sd wa : Addr} {oH oS : Obj} {t u' : Tok} {kvsH kvsS : List (Str × Value)} (F : Fr h₀ L h (setM "worth" (some (.ref wa)) m)) (N : News h₀ L h [(wa, tup2 (decP u d).1 (decP u d).2 t u'), (hdA, oH), (sd, oS), (na, listO nvs 0), (pa, listO vs n), tab0])
    (hp : PoolAt vs) (hu : Bits u 20) (h0 : 0 ≤ d) (h1 : d < 7) (dH : oH.IsDictOf (strKind PRG w) kvsH) (dS : oS.IsDictOf (strKind PRG w) kvsS) :
    CutF (Mid6 h₀ L pa na hdA sd oH oS nvs s₀ m) .next { s₀ with heap := h, toks := tk } :=
  have ⟨a, b⟩ := worth_ok hu h0 h1
  ⟨rfl, fun _ k => k h tk vs n wa (decP u d) t u' hp a b (ne_of_obj N (.head _) (.tail _ (.head _)) (fun e => dict_ne_seq dH (congrArg Obj.data e))) (ne_of_obj N (.head _) (.tail _ (.tail _ (.head _))) (fun e => dict_ne_seq dS (congrArg Obj.data e)))
    (ne_of_obj N (.head _) (.tail _ (.tail _ (.tail _ (.head _)))) (fun e => by have := congrArg Obj.cls e; revert this; show Value.type "tuple" = Value.type "list" → False; decide))
    (ne_of_obj N (.head _) (.tail _ (.tail _ (.tail _ (.tail _ (.head _))))) (fun e => by have := congrArg Obj.cls e; revert this; show Value.type "tuple" = Value.type "list" → False; decide))
    (ne_of_obj N (.head _) (.tail _ (.tail _ (.tail _ (.tail _ (.tail _ (.head _)))))) (fun e => by cases e)) F N⟩
theorem end7 {w : World} {n rn : Nat} {vs nvs : List Value} {pa na hdA sd wa du rl : Addr} {oH oS oW oD : Obj} {kvsH : List (Str × Value)} {q1 : Addr × Obj} (F : Fr h₀ L h (setM "due" (some (.ref du)) (setM "rows" (some (.ref rl)) (setM "is_odd" (some (.bool false)) m))))
    (N : News h₀ L h [q1, (rl, listO [] rn), (du, oD), (wa, oW), (hdA, oH), (sd, oS), (na, listO nvs 0), (pa, listO vs n), tab0]) (hd : oD.IsDictOf (strKind PRG w) kvsH) (l1 : Lt wa du) (l2 : Lt hdA du) (l3 : Lt du rl) :
    CutF (Mid7 w h₀ L pa na hdA sd wa oH oS oW nvs vs n kvsH s₀ m) .next { s₀ with heap := h, toks := tk } :=
  ⟨rfl, fun _ k => k h tk du oD rl rn hd l1 l2 l3 (by rw [setM_swap (a := "is_odd") (b := "rows") (by decide), setM_swap (a := "is_odd") (b := "due") (by decide), setM_swap (a := "rows") (b := "due") (by decide)]; exact F) fun q hq => N q (.tail _ hq)⟩
end
noncomputable def Mid8 (w : World) (h₀ : Heap) (L : Addr) (names : List Str) (S : Str → Srt) (wo : Int × Int) (x0 : Str → Int) (hdA sd na pa wa du rl : Addr) (oH oS : Obj) (nvs : List Value) (wt wu : Tok) (s₀ : Shared) (mm : Str → Option Value) (s' : Shared) : Prop :=
  ∀ P : Shared → Prop, (∀ h tk rs extra vs n oD kvsD rn odd y z1 z2 z3 z4 z5, rowsF S wo x0 rs = (odd, y) → oD.IsDictOf (strKind PRG w) kvsD → HeldOk names y kvsD → (∀ r ∈ rs, RowAt extra names r) → (∀ p ∈ extra, Lt rl p.1) → Fr h₀ L h (mRow mm odd z1 z2 z3 z4 z5) → News h₀ L h (rowsL hdA sd na pa wa du rl oH oS oD nvs vs (rs.map fun r => Value.ref r.ra) n rn wo wt wu extra)  → P { s₀ with heap := h, toks := tk }) → P s'
section
variable {M : Model} {A : Around} {env : Env} {st : Stmt} {rest : List Stmt} {Q : Flow → Shared → Prop} {E : Value → Shared → Prop} {s₀ : Shared} {h₀ : Heap} {L : Addr} {mm : Str → Option Value}
theorem cut_loop2 (w : World) {names : List Str} (S : Str → Srt) (x0 : Str → Int) {wo : Int × Int} {hdA sd na pa wa du rl : Addr} {oH oS oD : Obj} {nvs vs : List Value} {n rn : Nat} {wt wu : Tok} {kvsD : List (Str × Value)} (_F : Fr h₀ L s₀.heap (setM "is_odd" (some (.bool false)) mm))
    (_N : News h₀ L s₀.heap [(rl, listO [] rn), (du, oD), (wa, tup2 wo.1 wo.2 wt wu), (hdA, oH), (sd, oS), (na, listO nvs 0), (pa, listO vs n), tab0]) (_ok : HeldOk names x0 kvsD)
    (h1 : wpAny M A (exec st env) (CutF (Mid8 w h₀ L names S wo x0 hdA sd na pa wa du rl oH oS nvs wt wu s₀ mm)) E s₀)
    (h2 : ∀ h tk rs extra vs n oD kvsD rn odd y z1 z2 z3 z4 z5, rowsF S wo x0 rs = (odd, y) → oD.IsDictOf (strKind PRG w) kvsD → HeldOk names y kvsD → (∀ r ∈ rs, RowAt extra names r) → (∀ p ∈ extra, Lt rl p.1) →
      Fr h₀ L h (mRow mm odd z1 z2 z3 z4 z5) → News h₀ L h (rowsL hdA sd na pa wa du rl oH oS oD nvs vs (rs.map fun r => Value.ref r.ra) n rn wo wt wu extra) → wpAny M A (execs rest env) Q E { s₀ with heap := h, toks := tk }) :
    wpAny M A (execs (st :: rest) env) Q E s₀ :=
  cut _ h1 fun _ H => H (wpAny M A (execs rest env) Q E) h2
end
theorem SortsOk.more {w : World} {rest : Led} {names : List Str} {S : Str → Srt} {kvs : List (Str × Value)} (h : SortsOk w [] names S kvs) : SortsOk w rest names S kvs :=
  ⟨fun nm hm => let ⟨a, e, x⟩ := h.vals nm hm; ⟨a, e, x.mono (fun _ z => nomatch z)⟩, h.ok⟩
/-- the law's own call of _law_done -/
theorem done_here (w : World) {names : List Str} {nvs vs : List Value} {S : Str → Srt} {x0 y : Str → Int} {wo : Int × Int} {rs : List RowA} {extra : Led} {hdA sd na pa wa du rl : Addr} {oH oS oD : Obj} {n rn : Nat} {kvsH kvsS : List (Str × Value)} {wt wu : Tok} {odd : Bool}
    (hn : NamesAt names nvs) (hH : oH.IsDictOf (strKind PRG w) kvsH) (hS : oS.IsDictOf (strKind PRG w) kvsS) (ok : HeldOk names x0 kvsH) (oks : SortsOk w [] names S kvsS) (ow : PairOk wo) (ow6 : wo.2 ≤ 6) (hf : rowsF S wo x0 rs = (odd, y)) (hrs : ∀ r ∈ rs, RowAt extra names r) (hex : ∀ p ∈ extra, Lt rl p.1)
    (n1 : Lt 179 na) (n2 : Lt na sd) (n3 : Lt sd hdA) (n4 : @Ne Nat wa hdA) (n5 : @Ne Nat wa 179) (n6 : Lt hdA du) (n7 : Lt du rl) :
    SpecT w (.ref 184) [.ref hdA, .ref sd, .ref rl, .ref wa] 60 (rowsL hdA sd na pa wa du rl oH oS oD nvs vs (rs.map fun r => Value.ref r.ra) n rn wo wt wu extra)
      (fun v news' => ∃ c1 c2 oc1 oc2 oH' kvs' l2, CodeQ oc1 "_law_done.<locals>.keep" ∧ CodeQ oc2 "_law_done.<locals>.<lambda>" ∧ oH'.IsDictOf (strKind PRG w) kvs' ∧ HeldOk names y kvs' ∧ v = .bool odd ∧
        news' = (179, tabD c1 c2) :: (c1, oc1) :: (c2, oc2) :: (hdA, oH') :: (sd, oS) :: (du, oD) :: l2) := by
  have h := SpecT.sub (led := rowsL hdA sd na pa wa du rl oH oS oD nvs vs (rs.map fun r => Value.ref r.ra) n rn wo wt wu extra)
    (done_first w names hn.hi S x0 wo rs ((du, oD) :: (rl, listO (rs.map fun r => Value.ref r.ra) rn) :: (wa, tup2 wo.1 wo.2 wt wu) :: extra) hdA sd rl wa oH oS (listO (rs.map fun r => Value.ref r.ra) rn) kvsH kvsS wt wu hH hS ok oks.more (.tail _ (.head _)) (SeqOf.list rn)
      (.tail _ (.tail _ (.head _))) ow ow6 (fun r hr => let ⟨a, b, c⟩ := hrs r hr; ⟨.tail _ (.tail _ (.tail _ a)), .tail _ (.tail _ (.tail _ b)), c⟩) (by omega) (by omega) (fun p hp => ?_) (by omega) (fun p hp => ?_)) (fun q hq => ?_)
  · refine SpecT.mono h ?_
    rintro v news' ⟨c1, c2, oc1, oc2, q1, q2, oH', kvs', d, okk, rfl, rfl⟩
    have e : rs.foldl (run fun r => rowF S wo r.row) (false, x0) = (odd, y) := hf
    rw [e] at okk ⊢
    exact ⟨c1, c2, oc1, oc2, oH', kvs', _, q1, q2, d, okk, rfl, rfl⟩
  · rcases List.mem_cons.mp hp with rfl | hp
    · show @Ne Nat du 179; omega
    rcases List.mem_cons.mp hp with rfl | hp
    · show @Ne Nat rl 179; omega
    rcases List.mem_cons.mp hp with rfl | hp
    · exact n5
    · have := hex p hp; show @Ne Nat p.1 179; omega
  · rcases List.mem_cons.mp hp with rfl | hp
    · show @Ne Nat du hdA; omega
    rcases List.mem_cons.mp hp with rfl | hp
    · show @Ne Nat rl hdA; omega
    rcases List.mem_cons.mp hp with rfl | hp
    · exact n4
    · have := hex p hp; show @Ne Nat p.1 hdA; omega
  · rcases List.mem_cons.mp hq with rfl | hq
    · exact .tail _ (.tail _ (.tail _ (.tail _ (.tail _ (.tail _ (.tail _ (.head _)))))))
    rcases List.mem_cons.mp hq with rfl | hq
    · exact .tail _ (.tail _ (.tail _ (.head _)))
    rcases List.mem_cons.mp hq with rfl | hq
    · exact .tail _ (.tail _ (.tail _ (.tail _ (.head _))))
    rcases List.mem_cons.mp hq with rfl | hq
    · exact .tail _ (.head _)
    rcases List.mem_cons.mp hq with rfl | hq
    · exact .head _
    rcases List.mem_cons.mp hq with rfl | hq
    · exact .tail _ (.tail _ (.head _))
    exact .tail _ (.tail _ (.tail _ (.tail _ (.tail _ (.tail _ (.tail _ (.tail _ hq)))))))
example : True := by
  k_with "call type:dict" => (k_here; (with_reducible show wpAny _ _ (call (Value.type "dict") [Value.ref _]) _ _ _); k_dflt (refine' dict_copy ?kw_F ?kw_N ?kw_l ?kw_m ?kw_d ?kw_z ?_; (case kw_F => k_asm); (case kw_N => k_asm); (case kw_l => omega); (case kw_m => k_mem); (case kw_d => assumption); (case kw_z => assumption)); intro d9 h9 o9 F9 N9 l9 hd9; (try k_lt l9))
  trivial
example : True := by
  k_with "subscriptTail" => (k_here; (with_reducible show wpAny _ _ (subscriptTail _ _ (Value.ref _) (Value.str _ _)) _ _ _); k_dflt (refine' kda_item (knd := PySem.strKind _ _) ?kw_kN ?kw_kp ?kw_kd (strKind_is _ _ _ _) ?kw_kv ?_; (case kw_kN => k_asm); (case kw_kp => k_mem); (case kw_kd => assumption); (case kw_kv => first | assumption | exact stored_at)))
  trivial
example : True := by
  k_with "subscriptTail" => (k_here; (with_reducible show wpAny _ _ (subscriptTail _ _ (Value.ref _) (Value.int _ _)) _ _ _); k_dflt (refine' topTup_K ?kw_F ?kw_X ?kw_l ?kw_a ?kw_b ?kw_c ?kw_d ?_; (case kw_F => k_asm); (case kw_X => k_asm); (case kw_l => assumption); (case kw_a => decide); (case kw_b => decide); (case kw_c => rfl); (case kw_d => rfl)))
  trivial
example : True := by
  k_with "subscriptTail" => (k_here; (with_reducible show wpAny _ _ (subscriptTail _ (PySem.Expr.Slice none (some _) none _) (Value.ref _) (Value.ref _)) _ _ _); (fail_if_success (with_reducible show wpAny _ _ (subscriptTail (PySem.Expr.Name _ _) _ _ _) _ _ _)); k_dflt (refine kba_turn (value' := PySem.Expr.Name (PySem.Str.ofString "_") ⟨0, 0, 0, 0⟩) (fun _ => rfl) ?_; refine' names_slice ?kw_F ?kw_N ?kw_l ?kw_a ?kw_b ?_ ?kw_s ?kw_t; (case kw_F => k_asm); (case kw_N => k_asm); (case kw_l => exact News.isList (by k_asm) (by k_mem)); (case kw_a => assumption); (case kw_b => assumption); (case kw_s => with_unfolding_all rfl); (case kw_t => kmk_pure)); intro D' h' nm' nv' hn' F' N' l1; (try k_lt l1))
  trivial
example : True := by
  k_with "exec For Name Name cons nil" => (k_here; (with_reducible show wpAny _ _ (exec (Stmt.For (Expr.Name (PySem.Str.ofString "name") _) _ _ _ _) _) _ _ _); k_dflt (refine wpAny_For ?_))
  trivial
example : True := by
  k_with "exec For Name Call cons nil" => (k_here; (with_reducible show wpAny _ _ (exec (Stmt.For (Expr.Name (PySem.Str.ofString "turn") _) _ _ _ _) _) _ _ _); k_dflt (refine wpAny_For ?_))
  trivial
example : True := by
  k_with "subscriptTail" => (k_here; (with_reducible show wpAny _ _ (subscriptTail _ _ (Value.ref 149) (Value.int _ _)) _ _ _); k_dflt (refine' sorts_item ?kw_X ?kw_F ?kw_a ?kw_b ?_; (case kw_X => k_asm); (case kw_F => k_asm); (case kw_a => assumption); (case kw_b => assumption)); intro a9 x9 t9 u9 hx9 ox9; (obtain ⟨q1, q2, q3, q4⟩ := id ox9))
  trivial
example : True := by
  k_with "compareOp Eq ref ref" => (k_here; k_dflt (refine stop_here ?_))
  trivial
example : True := by
  k_with "call ref" => (k_here; (with_reducible show wpAny _ _ (PySem.call (Value.ref 184) _ _) _ _ _); k_dflt (refine stop_here ?_))
  trivial
example : True := by
  k_with "call ref" => (k_here; (with_reducible show wpAny _ _ (PySem.call (Value.ref 191) _ _) _ _ _); k_dflt (refine stop_here ?_))
  trivial
example : True := by
  k_with "call builtin:len" => (k_here; (with_reducible show wpAny _ _ (call (Value.builtin _) [Value.ref _]) _ _ _); k_dflt (refine' name_len ?kw_N ?kw_m ?kw_n ?_; (case kw_N => k_asm); (case kw_m => k_mem); (case kw_n => assumption)))
  trivial
example : True := by
  k_with "subscriptTail" => (k_here; (with_reducible show wpAny _ _ (subscriptTail _ _ (Value.ref _) (Value.int (Int.fmod _ _) _)) _ _ _); k_dflt (refine' name_itemP ?kw_N ?kw_m ?kw_n ?kw_p ?_; (case kw_N => k_asm); (case kw_m => k_mem); (case kw_n => assumption); (case kw_p => assumption)); intro nm9 t9 hn9 hp9; (obtain ⟨sa9, t09, q1, q2, q3, q4, q5⟩ := hp9))
  trivial
example : True := by
  k_with "subscriptTail" => (k_here; (with_reducible show wpAny _ _ (subscriptTail (PySem.Expr.Tuple _ _ _) _ (Value.ref _) (Value.int _ _)) _ _ _); k_dflt (refine' way_item ?kw_t ?kw_a ?kw_b ?_; (case kw_t => exact News.isTup (by k_asm) (by k_mem)); (case kw_a => assumption); (case kw_b => assumption)); intro way9 t9)
  trivial
example : True := by
  k_with "call ref" => (k_here; (with_reducible show wpAny _ _ (PySem.call (Value.ref 177) _ _) _ _ _); k_dflt (refine' Spec.use (row_spec _ _ _ _ _ _ _ _ _ _ _ _ _ ?kw_s1 ?kw_s2 ?kw_s3 ?kw_s4 ?kw_s5) ?kw_hf ?kw_hk ?kw_B ?kw_F ?kw_X ?kw_N ?kw_T ?kw_hd ?kw_hu ?_; (case kw_hf => exact rfl); (case kw_hk => exact rfl); (case kw_B => k_asm); (case kw_F => k_asm); (case kw_X => k_asm); (case kw_N => k_asm); (case kw_T => k_asm); (case kw_s1 => exact SrtAt.mono (news := []) (by assumption) (fun _ h => nomatch h)); (case kw_s2 => assumption); (case kw_s3 => k_mem); (case kw_s4 => assumption); (case kw_s5 => assumption); (case kw_hd => first | (dsimp only [AA, Around.deeper]; omega) | decide +kernel); (case kw_hu => first | (dsimp only [AA, Around.deeper]; omega) | decide +kernel); k_whole; intro r9 n9 h9 tk9 R9 F9 N9; obtain ⟨e8, e9⟩ := R9; replace e8 := Eq.symm e8; subst e8; rcases optV_split e9 with ⟨q1, q2⟩ | ⟨i9, k9, q1, q2⟩ <;> (replace q2 := Eq.symm q2; subst q2); (try dsimp only); (try k_sweep); (try (with_reducible show wpAny _ _ _ _ _ _)); (try k_fold)))
  trivial
local macro_rules | `(tactic| k_ne) => `(tactic| first | assumption | exact Ne.symm (by assumption))
theorem law_now : PySem.Challenge.rw_og0073_01.Holds := hd (by
  k_go0
  all_goals try k_fold
  rename_i w s0 s1 mg mb G Y fa o pm cd doc kV ho hcd hg X V T B TE TW w5 hs hlay0 hL1 hr1 hl2 w4 w3 w2 w1 w0 hL ra wl r0 hI hr hc1 hc hD h1 X0 T0 K0 F0 N0 l0
  refine at_end F0 ?main ?fin
  case fin =>
    rintro f s' ⟨rfl, h', tk, m, c1, c2, oc1, oc2, more, rfl, F', N'⟩
    dsimp only
    k_steps
  case main =>
    refine any_E (by passes_own) ?_
    intro E' hE'
    clear hD hr r0 wl hL1 hr1 hl2 hs hlay0 hcd hg hT8 X V T B TE TW hT9 ho G Y codeHd
    skip
    dsimp only
    refine cut_pool F0 ?s1 ?r1
    case s1 =>
      (try dsimp only)
      (try (with_reducible show wpAny _ _ _ _ _ _))
      (try k_fold)
      k_steps
      rename Fr _ _ _ _ => F1
      rename News _ _ _ _ => N1
      rename IntsAre _ (List.map _ _) => hI8
      rename _ ∧ _ ≠ _ => o1
      exact end_pool F1 N1 (pool_of hI8) (.tail _ (.head _)) (Ne.symm o1.2)
    case r1 =>
      clear F0 N0
      intro h1 tk1 pa vs n hp hne F1 N1
      dsimp only
      refine cut_names F1 ?s2 ?r2
      case s2 =>
        (try dsimp only)
        (try (with_reducible show wpAny _ _ _ _ _ _))
        (try k_fold)
        k_steps
        rename Fr _ _ _ _ => F2
        rename News _ _ _ _ => N2
        refine end_names F2 N2 (by assumption) (by assumption) hne (by omega) (by omega)
      case r2 =>
        clear F1 N1 hp hne
        intro h2 tk2 pa vs n na names nvs hp hn n1 n2 n3 F2 N2
        dsimp only
        refine cut_dicts w F2 N2 ?s3 ?r3
        case s3 =>
          (try dsimp only)
          (try (with_reducible show wpAny _ _ _ _ _ _))
          (try k_fold)
          k_steps
          rename Fr _ _ _ _ => F3
          rename News _ _ _ _ => N3
          refine end_dicts F3 N3 (by assumption) (by assumption) (by omega) (by omega)
        case r3 =>
          clear F2 N2
          intro h3 tk3 hdA oH sd oS dH dS n4 n5 F3 N3
          dsimp only
          refine cut_loop1 w hn F3 N3 ?s4 ?r4
          case s4 =>
            (try dsimp only)
            (try (with_reducible show wpAny _ _ _ _ _ _))
            (try k_fold)
            k_steps
            refine loop1_rule rfl hn rfl rfl rfl F3 N3 dH dS hp ?turn ?fin ?hE
            case hE => passes_own
            case fin =>
              intro h4 tk4 zv vs n oH kvsH oS kvsS x S hp hdH okH hdS kS okS F4 N4
              exact ⟨rfl, fun _ k => k h4 tk4 vs n oH oS kvsH kvsS x S zv hp hdH okH hdS kS okS F4 N4⟩
            case turn =>
              clear F3 N3 dH dS hp
              intro i nm nt h4 tk4 I it vs n oH kvsH oS kvsS x S hnm hp hdH okH hdS kS okS hlH hlS i1 i2 i3 i4 i5 F4 N4
              (try dsimp only)
              (try (with_reducible show wpAny _ _ _ _ _ _))
              (try k_fold)
              k_steps
              all_goals (rename Fr _ _ _ _ => F8; rename News _ _ _ _ => N8; exact end1 hn hnm (by assumption) okH (by assumption) (by first | exact digit_bits (.inl rfl) (by assumption) (by assumption) (by assumption) | exact digit_bits (.inr rfl) (by assumption) (by assumption) (by assumption)) okS kS (by assumption) (by assumption) (by assumption) i1 i2 i3 i4 i5 F8 N8)
          case r4 =>
            clear F3 N3 dH dS hp
            intro h4 tk4 vs n oH oS kvsH kvsS x S zv hp dH okH dS kS okS F4 N4
            dsimp only
            refine cut_units F4 N4 ?s5 ?r5
            case s5 =>
              (try dsimp only)
              (try (with_reducible show wpAny _ _ _ _ _ _))
              (try k_fold)
              k_steps
              rename Fr _ _ _ _ => F8
              rename News _ _ _ _ => N8
              exact ⟨rfl, fun _ k => k _ _ _ _ _ _ (by assumption) (by omega) (by omega) F8 N8⟩
            case r5 =>
              clear F4 N4 hp
              intro h5 tk5 vs n z zt hp z0 z1 F5 N5
              dsimp only
              have zb := units_bits z0 z1
              refine cut_worth F5 N5 ?s6 ?r6
              case s6 =>
                (try dsimp only)
                (try (with_reducible show wpAny _ _ _ _ _ _))
                (try k_fold)
                k_steps
                all_goals (rename Fr _ _ _ _ => F8; rename News _ _ _ _ => N8; exact end6 F8 N8 (by assumption) (by first | exact zb | exact zero_bits) (by assumption) (by assumption) dH dS)
              case r6 =>
                clear F5 N5 hp z0 z1 zb
                intro h6 tk6 vs n wa wo wt wu hp ow ow6 l1 l2 l3 l4 l5 F6 N6
                dsimp only
                have hk3 := okH.three hn
                refine cut_due w F6 N6 dH ?s7 ?r7
                case s7 =>
                  (try dsimp only)
                  (try (with_reducible show wpAny _ _ _ _ _ _))
                  (try k_fold)
                  k_steps
                  rename Fr _ _ _ _ => F8
                  rename News _ _ _ _ => N8
                  exact end7 F8 N8 (by assumption) (by omega) (by omega) (by omega)
                case r7 =>
                  clear F6 N6
                  intro h7 tk7 du oD rl rn dD l6 l7 l8 F7 N7
                  dsimp only
                  refine cut_loop2 w S x F7 N7 okH ?s8 ?r8
                  case s8 =>
                    (try dsimp only)
                    (try (with_reducible show wpAny _ _ _ _ _ _))
                    (try k_fold)
                    k_steps
                    rename IsRange _ _ _ _ _ _ _ _ => hr8
                    rename Fr _ _ _ _ => F8
                    rename News _ _ _ _ => N8
                    obtain ⟨k8, rfl, hk4⟩ := nat_of (by assumption) (by assumption)
                    refine loop2_rule (k := k8) (kvsD := kvsH) F8 N8 rfl hr8 (range4 hk4).1 (range4 hk4).2 hk4 rfl rfl rfl ?pool dD okH hn okS (by omega) (by omega) (by omega) (by omega) (by omega) ?turn ?fin ?hE
                    case hE => passes_own
                    case pool => assumption
                    case fin =>
                      intro h8 tk8 rs extra vs n oD kvsD rn odd y z1 z2 z3 z4 z5 a1 a2 a3 a4 a5 a6 F8 N8
                      exact ⟨rfl, fun _ k => k h8 tk8 rs extra vs n oD kvsD rn odd y z1 z2 z3 z4 z5 a1 a3 a4 a5 a6 F8 N8⟩
                    case turn =>
                      clear F8 N8 hr8 dD
                      intro i j t h8 tk8 I it rs extra vs vsr n oD kvsD rn odd y z2 z3 z4 z5 hi hlen hvr hv3 hf hp8 dD hk3' ok8 hall hrs hex e1 e2 e3 e4 i1 i2 i3 i4 i5 i6 i7 i8 F8 N8
                      have hl0 := hn.len0
                      (try dsimp only)
                      (try (with_reducible show wpAny _ _ _ _ _ _))
                      (try k_fold)
                      k_steps
                      all_goals (rename Fr _ _ _ _ => F9; rename News _ _ _ _ => N9; rename rowP _ _ _ _ _ = _ => q9)
                      · exact end8n q9 F9 N9 (by assumption) (or_t (by assumption)) (by assumption) (by assumption) (by assumption) hlen hvr hf hrs hex ow ok8 (by omega) (by omega) e4 i1 i2 i3 i4 i5 i6 i7 i8 (by omega) (by omega)
                      · exact end8n q9 F9 N9 (by assumption) or_tt (by assumption) (by assumption) (by assumption) hlen hvr hf hrs hex ow ok8 (by omega) (by omega) e4 i1 i2 i3 i4 i5 i6 i7 i8 (by omega) (by omega)
                      · exact end8s q9 F9 N9 (by assumption) or_s (by assumption) (by assumption) (by assumption) hlen hvr hf hrs hex ow ok8 (by omega) (by omega) e4 i1 i2 i3 i4 i5 i6 i7 i8 (by omega) (by omega)
                      · exact end8s q9 F9 N9 (by assumption) (or_f (by assumption)) (by assumption) (by assumption) (by assumption) hlen hvr hf hrs hex ow ok8 (by omega) (by omega) e4 i1 i2 i3 i4 i5 i6 i7 i8 (by omega) (by omega)
                  case r8 =>
                    clear hk3 dD F7 N7
                    intro h8 tk8 rs extra vs n oD kvsD rn odd y z1 z2 z3 z4 z5 hf dD okD hrs hex F8 N8
                    dsimp only
                    k_steps
                    refine go_on ?_
                    refine SpecT.top (done_here w hn dH dS okH okS ow ow6 hf hrs hex (by omega) (by omega) (by omega) l1 l5 (by omega) (by omega)) rfl rfl K0 X0 T0 (by k_asm) (by k_asm) (by first | omega | decide +kernel) (by first | omega | decide +kernel) ?_
                    clear F8 N8 dH okH dS kS okS hrs hex hf
                    rintro v news' h9 tk9 ⟨c1, c2, oc1, oc2, oH', kvs', l2', q1, q2, dH', okH', rfl, rfl⟩ F9 N9
                    dsimp only
                    k_steps
                    rotate_left
                    · rename (odd == odd) = false => z9
                      rw [beq_self_eq_true] at z9
                      cases z9
                    refine go_on ?_
                    refine held_eq hn.nodup N9 (.tail _ (.tail _ (.tail _ (.head _)))) (.tail _ (.tail _ (.tail _ (.tail _ (.tail _ (.head _)))))) dH' dD (by omega) (by omega) okH' okD (of_decide_eq_true (by with_unfolding_all rfl)) ?_
                    k_steps
                    refine go_on ?_
                    refine SpecT.top (table_spec w _ c1 c2 _ _ q1 q2) rfl rfl K0 X0 T0 (by k_asm) (by k_asm) (by first | omega | decide +kernel) (by first | omega | decide +kernel) ?_
                    rintro v news' h10 tk10 ⟨rfl, rfl⟩ F10 N10
                    dsimp only
                    k_steps
                    exact ⟨rfl, _, _, _, _, _, _, _, _, rfl, F10, N10⟩)
end Mine
theorem PySem.Challenge.cw_og0073_01_holds : PySem.Challenge.rw_og0073_01.Holds :=
  Mine.law_now
