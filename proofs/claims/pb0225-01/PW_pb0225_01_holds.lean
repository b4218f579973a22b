import PyProof.Rows.All
import Wide.All
import OpenK.AllK
import Wide.FinOn
import PySem.Challenge.RW_pb0225_01
open PySem PySem.W PySem.Calls PySem.Spec PyProof.Rows
set_option Elab.async false
set_option linter.unusedVariables false
namespace Mine
set_option maxRecDepth 100000 in
set_option maxHeartbeats 8000000 in
open_top hd for PySem.Challenge.rw_pb0225_01

abbrev PR : Program := (PySem.Challenge.rw_pb0225_01).prog

def normN : Nat → Int → Int × Int
  | 0, u => (u, 0)
  | s + 1, u => if u.fmod 10 = 0 then normN s (u.fdiv 10) else (u, (s : Int) + 1)
def norm (u s : Int) : Int × Int := normN s.toNat u

theorem norm_step {u s : Int} {n : Int × Int} (h : 0 < s) (h2 : u.fmod 10 = 0) (h3 : norm u s = n) : norm (u.fdiv 10) (s - 1) = n := by
  unfold norm at *
  obtain ⟨k, rfl⟩ : ∃ k : Nat, s = (k : Int) + 1 := ⟨(s - 1).toNat, by omega⟩
  rw [show ((k : Int) + 1).toNat = k + 1 by omega, normN, if_pos h2] at h3
  rw [show ((k : Int) + 1 - 1).toNat = k by omega]
  exact h3
theorem norm_end1 {u s : Int} {n : Int × Int} (h : 0 < s) (h2 : u.fmod 10 ≠ 0) (h3 : norm u s = n) : (u, s) = n := by
  unfold norm at *
  obtain ⟨k, rfl⟩ : ∃ k : Nat, s = (k : Int) + 1 := ⟨(s - 1).toNat, by omega⟩
  rw [show ((k : Int) + 1).toNat = k + 1 by omega, normN, if_neg h2] at h3
  exact h3
theorem norm_end0 {u s : Int} {n : Int × Int} (h : 0 ≤ s) (h1 : ¬ 0 < s) (h3 : norm u s = n) : (u, s) = n := by
  have h0 : s = 0 := by omega
  subst h0
  exact h3

def cutq (t b : Int) : Int := if (decide (t < 0) != decide (b < 0)) = true then - ((if t < 0 then -t else t).fdiv (if b < 0 then -b else b)) else (if t < 0 then -t else t).fdiv (if b < 0 then -b else b)
theorem cutq_t {t b : Int} (h : (decide (t < 0) != decide (b < 0)) = true) : - ((if t < 0 then -t else t).fdiv (if b < 0 then -b else b)) = cutq t b := by unfold cutq; rw [if_pos h]
theorem cutq_f {t b : Int} (h : (decide (t < 0) != decide (b < 0)) = false) : (if t < 0 then -t else t).fdiv (if b < 0 then -b else b) = cutq t b := by simp only [cutq, h, Bool.false_eq_true, if_false]
/-- a bound that no arithmetic line is to look into -/
def Lt (n : Nat) (x : Int) : Prop := x.natAbs < 10 ^ n
theorem noPy {x y : Int} (h : Lt 200 y) : Builtin.divisionGoesByPylong x y = false := by
  refine PyProof.noPylong_of_log2 ?_
  by_cases h0 : y.natAbs = 0
  · rw [h0]; decide +kernel
  · refine (Nat.log2_lt h0).mpr (Nat.lt_trans h ?_)
    exact Nat.lt_of_lt_of_le (show 10 ^ 200 < 2 ^ 700 by decide +kernel) (Nat.pow_le_pow_right (by decide) (by decide))
theorem fits_eq {u : Int} (h : Lt 120 u) : (if u < 0 then -u else u) < (10 : Int) ^ (120 : Int).toNat := by
  have e : ((10 ^ 120 : Nat) : Int) = (10 : Int) ^ (120 : Int).toNat := by decide +kernel
  rw [← e]
  unfold Lt at h
  generalize 10 ^ 120 = n at h
  split <;> omega
theorem abs_nz {v : Int} (h : v ≠ 0) : (if v < 0 then -v else v) ≠ 0 := by split <;> omega
theorem abs_lt {v : Int} {n : Nat} (h : Lt n v) : Lt n (if v < 0 then -v else v) := by
  unfold Lt at *
  generalize 10 ^ n = k at *
  split <;> omega

theorem normN_mul (u : Int) (s : Nat) : ∀ k : Nat, normN (s + k) (u * 10 ^ k) = normN s u := by
  intro k
  induction k with
  | zero => simp
  | succ k ih =>
    have e : u * (10 : Int) ^ (k + 1) = (u * 10 ^ k) * 10 := by rw [Int.pow_succ, Int.mul_assoc]
    have h1 : (u * (10 : Int) ^ (k + 1)).fmod 10 = 0 := by rw [e]; exact Int.mul_fmod_left _ _
    have h2 : (u * (10 : Int) ^ (k + 1)).fdiv 10 = u * 10 ^ k := by rw [e]; exact Int.mul_fdiv_cancel _ (by decide)
    show normN (s + k + 1) _ = _
    rw [normN, if_pos h1, h2, ih]
theorem norm_mul {u s : Int} {k : Nat} (hs : 0 ≤ s) : norm (u * 10 ^ k) (s + k) = norm u s := by
  unfold norm
  rw [show (s + (k : Int)).toNat = s.toNat + k by omega]
  exact normN_mul u s.toNat k
theorem plus_eq {a0 a1 b0 b1 : Int} (ha : 0 ≤ a1) (hb : 0 ≤ b1) :
    norm (a0 * 10 ^ ((if b1 > a1 then b1 else a1) - a1).toNat + b0 * 10 ^ ((if b1 > a1 then b1 else a1) - b1).toNat) (if b1 > a1 then b1 else a1) = norm (a0 * 10 ^ b1.toNat + b0 * 10 ^ a1.toNat) (a1 + b1) := by
  split
  · rename_i h
    have e : a0 * (10 : Int) ^ b1.toNat + b0 * 10 ^ a1.toNat = (a0 * 10 ^ (b1 - a1).toNat + b0 * 10 ^ (b1 - b1).toNat) * 10 ^ a1.toNat := by
      rw [Int.add_mul, Int.mul_assoc, ← Int.pow_add, Int.mul_assoc, ← Int.pow_add]
      rw [show (b1 - a1).toNat + a1.toNat = b1.toNat by omega, show (b1 - b1).toNat + a1.toNat = a1.toNat by omega]
    rw [e, show a1 + b1 = b1 + (a1.toNat : Int) by omega, norm_mul hb]
  · rename_i h
    have e : a0 * (10 : Int) ^ b1.toNat + b0 * 10 ^ a1.toNat = (a0 * 10 ^ (a1 - a1).toNat + b0 * 10 ^ (a1 - b1).toNat) * 10 ^ b1.toNat := by
      rw [Int.add_mul, Int.mul_assoc, ← Int.pow_add, Int.mul_assoc, ← Int.pow_add]
      rw [show (a1 - a1).toNat + b1.toNat = b1.toNat by omega, show (a1 - b1).toNat + b1.toNat = a1.toNat by omega]
    rw [e, show a1 + b1 = a1 + (b1.toNat : Int) by omega, norm_mul ha]
theorem minus_eq {a0 a1 b0 b1 : Int} (ha : 0 ≤ a1) (hb : 0 ≤ b1) :
    norm (a0 * 10 ^ ((if b1 > a1 then b1 else a1) - a1).toNat - b0 * 10 ^ ((if b1 > a1 then b1 else a1) - b1).toNat) (if b1 > a1 then b1 else a1) = norm (a0 * 10 ^ b1.toNat - b0 * 10 ^ a1.toNat) (a1 + b1) := by
  have := plus_eq (a0 := a0) (a1 := a1) (b0 := -b0) (b1 := b1) ha hb
  simpa only [Int.neg_mul, ← Int.sub_eq_add_neg] using this
/-- the law's own quotient, cut at the thirtieth place, before its noughts are dropped -/
def lawq (t b : Int) : Int := if t * b < 0 then -(((if t < 0 then -t else t) * 10 ^ (30 : Int).toNat).fdiv (if b < 0 then -b else b)) else ((if t < 0 then -t else t) * 10 ^ (30 : Int).toNat).fdiv (if b < 0 then -b else b)
theorem lawq_t {t b : Int} (h : t * b < 0) : norm (-(((if t < 0 then -t else t) * 10 ^ (30 : Int).toNat).fdiv (if b < 0 then -b else b))) 30 = norm (lawq t b) 30 := by
  rw [show lawq t b = _ from if_pos h]
theorem lawq_f {t b : Int} (h : ¬ t * b < 0) : norm (((if t < 0 then -t else t) * 10 ^ (30 : Int).toNat).fdiv (if b < 0 then -b else b)) 30 = norm (lawq t b) 30 := by
  rw [show lawq t b = _ from if_neg h]
theorem iabs_mul_pow {t : Int} {k : Nat} : (if t * 10 ^ k < 0 then -(t * 10 ^ k) else t * 10 ^ k) = (if t < 0 then -t else t) * (10 : Int) ^ k := by
  have hp : (0 : Int) < 10 ^ k := Int.pow_pos (by decide)
  by_cases h : t < 0
  · rw [if_pos h, if_pos (Int.mul_neg_of_neg_of_pos h hp), Int.neg_mul]
  · rw [if_neg h, if_neg (Int.not_lt.mpr (Int.mul_nonneg (by omega) (Int.le_of_lt hp)))]
theorem mul_pow_neg {t : Int} {k : Nat} : decide (t * 10 ^ k < 0) = decide (t < 0) := by
  have hp : (0 : Int) < 10 ^ k := Int.pow_pos (by decide)
  by_cases h : t < 0
  · rw [decide_eq_true h, decide_eq_true (Int.mul_neg_of_neg_of_pos h hp)]
  · rw [decide_eq_false h, decide_eq_false (Int.not_lt.mpr (Int.mul_nonneg (by omega) (Int.le_of_lt hp)))]
theorem cutq_lawq {t b : Int} (hb : b ≠ 0) : cutq (t * 10 ^ (30 : Int).toNat) b = lawq t b := by
  unfold cutq lawq
  rw [iabs_mul_pow, mul_pow_neg]
  by_cases ht0 : t = 0
  · subst ht0
    simp
  · have key : ((decide (t < 0) != decide (b < 0)) = true) ↔ t * b < 0 := by
      rcases Int.lt_or_gt_of_ne ht0 with h | h <;> rcases Int.lt_or_gt_of_ne hb with h' | h'
      · have := Int.mul_pos_of_neg_of_neg h h'; simp [h, h']; omega
      · have := Int.mul_neg_of_neg_of_pos h h'; simp [h, Int.not_lt.mpr (Int.le_of_lt h'), this]
      · have := Int.mul_neg_of_pos_of_neg h h'; simp [h', Int.not_lt.mpr (Int.le_of_lt h), this]
      · have := Int.mul_pos h h'; simp [Int.not_lt.mpr (Int.le_of_lt h), Int.not_lt.mpr (Int.le_of_lt h')]; omega
    by_cases hc : t * b < 0
    · rw [if_pos (key.mpr hc), if_pos hc]
    · rw [if_neg (fun q => hc (key.mp q)), if_neg hc]
theorem quot_eq {a0 a1 b0 b1 : Int} (hb1 : 0 ≤ b1) (hb : b0 ≠ 0) : cutq (a0 * 10 ^ (30 + b1).toNat) (b0 * 10 ^ a1.toNat) = lawq (a0 * 10 ^ b1.toNat) (b0 * 10 ^ a1.toNat) := by
  rw [← cutq_lawq (Int.mul_ne_zero hb (Int.ne_of_gt (Int.pow_pos (by decide)))), Int.mul_assoc, ← Int.pow_add, show (30 + b1).toNat = b1.toNat + (30 : Int).toNat by omega]
theorem natAbs_mul_pow_lt {x k : Int} {n c : Nat} (h : Lt n x) (h2 : k ≤ c) : Lt (n + c) (x * 10 ^ k.toNat) := by
  unfold Lt at *
  rw [Int.natAbs_mul, Int.natAbs_pow, Nat.pow_add]
  exact Nat.mul_lt_mul_of_lt_of_le h (Nat.pow_le_pow_right (by decide) (by omega)) (Nat.pow_pos (by decide))
theorem mul_pow_nz {x k : Int} (h : x ≠ 0) : x * 10 ^ k.toNat ≠ 0 := Int.mul_ne_zero h (Int.ne_of_gt (Int.pow_pos (by decide)))
theorem Lt.bits {n : Nat} {a : Int} (h : Lt n a) : Builtin.Int.intBits a ≤ 4 * n := by
  refine intBits_le (Nat.lt_of_lt_of_le h ?_)
  rw [Nat.pow_mul]
  exact Nat.pow_le_pow_left (by decide) n
theorem Lt.pow10 {k : Int} {c : Nat} (h : k ≤ c) : Lt (c + 1) (10 ^ k.toNat) := by
  unfold Lt
  rw [Int.natAbs_pow]
  exact Nat.lt_of_le_of_lt (Nat.pow_le_pow_right (by decide) (by omega : k.toNat ≤ c)) (Nat.pow_lt_pow_right (by decide) (Nat.lt_succ_self c))
theorem mulOk_p {a k : Int} (h : Lt 150 a) (hk : k ≤ 50) : IntMulOk a (10 ^ k.toNat) :=
  IntMulOk.of_bits (Nat.le_trans h.bits (by decide)) (Nat.le_trans (Lt.pow10 (c := 50) hk).bits (by decide))
abbrev tup2 (x y : Int) (t1 t2 : Tok) : Obj := { cls := .type "tuple", data := .seq #[.int x t1, .int y t2] }
abbrev IRet (h₀ : Heap) (L : Addr) (m : Str → Option Value) (news : List (Addr × Obj)) (s : Shared) (Q : Value → Shared → Prop) (x : Int) : Prop :=
  ∀ (t : Tok) (h' : Heap) (tk' : Nat), Fr h₀ L h' m → News h₀ L h' news → Q (.int x t) { s with heap := h', toks := tk' }
abbrev BRet (h₀ : Heap) (L : Addr) (m : Str → Option Value) (news : List (Addr × Obj)) (s : Shared) (Q : Value → Shared → Prop) (b : Bool) : Prop :=
  ∀ (h' : Heap) (tk' : Nat), Fr h₀ L h' m → News h₀ L h' news → Q (.bool b) { s with heap := h', toks := tk' }
abbrev PRet (h₀ : Heap) (L : Addr) (m : Str → Option Value) (news : List (Addr × Obj)) (s : Shared) (Q : Value → Shared → Prop) (x : Int × Int) : Prop :=
  ∀ (D : Addr) (t1 t2 : Tok) (h' : Heap) (tk' : Nat), Fr h₀ L h' m → News h₀ L h' ((D, tup2 x.1 x.2 t1 t2) :: news) → AllLt D news → Q (.ref D) { s with heap := h', toks := tk' }
abbrev tup3 (x y z : Int) (t1 t2 t3 : Tok) : Obj := { cls := .type "tuple", data := .seq #[.int x t1, .int y t2, .int z t3] }
abbrev TRet (h₀ : Heap) (L : Addr) (m : Str → Option Value) (news : List (Addr × Obj)) (s : Shared) (Q : Value → Shared → Prop) (x y z : Int) : Prop :=
  ∀ (D : Addr) (t1 t2 t3 : Tok) (h' : Heap) (tk' : Nat), Fr h₀ L h' m → News h₀ L h' ((D, tup3 x y z t1 t2 t3) :: news) → AllLt D news → Q (.ref D) { s with heap := h', toks := tk' }

section
variable {h₀ h' : Heap} {L : Addr} {m : Str → Option Value} {news news' : List (Addr × Obj)} {s : Shared} {Q : Value → Shared → Prop} {tk' : Nat}
theorem i_end {x y : Int} {t : Tok} (hret : IRet h₀ L m news s Q x) (F : Fr h₀ L h' m) (N : News h₀ L h' news') (hn : ∀ p ∈ news, p ∈ news') (e : y = x) : Q (.int y t) { s with heap := h', toks := tk' } := by
  subst e
  exact hret t h' tk' F fun p hp => N p (hn p hp)
theorem b_end {x y : Bool} (hret : BRet h₀ L m news s Q x) (F : Fr h₀ L h' m) (N : News h₀ L h' news') (hn : ∀ p ∈ news, p ∈ news') (e : y = x) : Q (.bool y) { s with heap := h', toks := tk' } := by
  subst e
  exact hret h' tk' F fun p hp => N p (hn p hp)
theorem p_end {x : Int × Int} {y1 y2 : Int} {D : Addr} {t1 t2 : Tok} (hret : PRet h₀ L m news s Q x) (F : Fr h₀ L h' m) (N : News h₀ L h' news') (hm : (D, tup2 y1 y2 t1 t2) ∈ news') (hn : ∀ p ∈ news, p ∈ news') (hl : AllLt D news) (e : (y1, y2) = x) : Q (.ref D) { s with heap := h', toks := tk' } := by
  subst e
  exact hret D t1 t2 h' tk' F (fun p hp => (List.mem_cons.mp hp).elim (fun q => q ▸ N _ hm) fun q => N p (hn p q)) hl
theorem t_end {x y z x' y' z' : Int} {D : Addr} {t1 t2 t3 : Tok} (hret : TRet h₀ L m news s Q x y z) (F : Fr h₀ L h' m) (N : News h₀ L h' news') (hm : (D, tup3 x' y' z' t1 t2 t3) ∈ news') (hn : ∀ p ∈ news, p ∈ news') (hl : AllLt D news) (e1 : x' = x) (e2 : y' = y) (e3 : z' = z) : Q (.ref D) { s with heap := h', toks := tk' } := by
  subst e1; subst e2; subst e3
  exact hret D t1 t2 t3 h' tk' F (fun p hp => (List.mem_cons.mp hp).elim (fun q => q ▸ N _ hm) fun q => N p (hn p q)) hl
end

local macro_rules | `(tactic| walk_at "mine enter") => `(tactic| (refine' code_def ?k1 ?k2 ?k3 ?k4 ?k5 ?kA ?kF ?kK ?k6 ?k7 ?k8 ?k9 ?kB ?_ ?c2 ?c3 ?c4 ?c5; (case kA => exact rfl); (case kF => exact rfl); (case kK => assumption); (case k1 => k_asm); (case k2 => k_asm); (case k3 => k_asm); (case k4 => k_asm); (case k5 => k_asm); (case k6 => k_is); (case k7 => k_is); (case k8 => ktr_room); (case k9 => first | exact BindsTo.of_eq rfl | exact binds_K (by k_in) rfl (by k_is) rfl rfl rfl); (case c5 => decide); (case kB => exact locs rfl); (case c2 => exact rfl); (case c3 => exact rfl); (case c4 => exact rfl); k_whole; intro g' L' h' FG' F' N' B' X' T'; (try dsimp only); (try k_lift B'); (try k_fold)))
-- every old object is still on the ledger
local macro_rules | `(tactic| walk_at "mine sub") => `(tactic| (intro p hp; (repeat (first | exact hp | refine List.Mem.tail _ ?_))))
local macro_rules | `(tactic| walk_at "mine lt") => `(tactic| ((try simp only [AllLt, and_true]); first | assumption | exact allLt_of (by assumption) | exact And.right (by assumption) | exact And.right (And.right (by assumption)) | exact And.right (And.right (And.right (by assumption))) | (simp only [AllLt, and_true] at *; simp_all)))
-- the start: the written part is kept
local macro_rules | `(tactic| walk_at "mine fill") => `(tactic| (k_with_none; w_top off; (have e9 : ∀ w : World, (PySem.Challenge.rw_pb0225_01).prog = PR ∧ (hd.heap_39 w.params) = (hd.heap_39 w.params) := by (k_fill; exact fun _ => ⟨rfl, rfl⟩)); clear e9))
local macro_rules | `(tactic| walk_at "mine pre") => `(tactic| first | assumption | k_mem | omega | (k_extra "pre"))
local macro_rules | `(tactic| walk_at "subscriptTail") => `(tactic| (k_here; (with_reducible show wpAny _ _ (subscriptTail _ _ (Value.ref _) (Value.int _ _)) _ _ _); k_dflt (refine' item_tupleT ?t ?a ?b ?c ?d ?_; (case t => exact News.isTup (by k_asm) (by k_mem)); (case a => decide); (case b => decide); (case c => rfl); (case d => rfl); k_whole)))
local macro_rules | `(tactic| walk_at "binaryOp Pow int int") => `(tactic| (k_here; (with_reducible refine pow_int_small ?kb1 ?kb2 ?kb3 ?_); (case kb1 => walk_at "mine pre"); (case kb2 => walk_at "mine pre"); (case kb3 => first | decide | walk_at "mine pre")))
local macro_rules | `(tactic| walk_at "binaryOp Mult int int") => `(tactic| (k_here; (with_reducible refine mul_int ?_ ?kbm); (case kbm => first | exact IntMulOk.of_left (intBits_le (by omega)) | exact IntMulOk.of_right (intBits_le (by omega)) | exact mulOk_p (by assumption) (by omega))))
-- the premises that every contract has alike
local macro_rules | `(tactic| walk_at "mine call") => `(tactic| ((case k1 => k_asm); (case k2 => k_asm); (case k3 => k_asm); (case k4 => k_asm); (case k5 => k_asm); (case kK => first | exact rfl | assumption); (case kd => ktr_room); (case ku => ktr_units)))
local macro_rules | `(tactic| walk_at "mine tidy") => `(tactic| ((try dsimp only); (try k_sweep); (try k_fold)))
local macro_rules | `(tactic| k_mem) => `(tactic| ((repeat (first | exact List.Mem.head _ | (with_reducible assumption) | refine' List.mem_cons_of_mem _ ?_)); first | done | assumption))

local macro_rules | `(tactic| walk_at "binaryOp FloorDiv int int") => `(tactic| (k_here; (with_reducible refine floordiv_int ?kbe ?_ (Or.inl (noPy ?kbp))); (case kbe => first | assumption | exact abs_nz (by assumption)); (case kbp => first | assumption | exact abs_lt (by assumption))))
section
variable {w : World} {p : Program} {loose : List Str} {mean : ExcName → Option Value} {mg mb : Str → Option Value} {dp un : Nat} {gd : Option (List Code)} {cn : Str} {cs : Scope} {a : Addr} {ccd : Value} {cl : List (Str × Addr)} {outer : List Env} {A₀ : Around} {base h₀ : Heap} {L : Addr} {m : Str → Option Value} {news : List (Addr × Obj)} {s : Shared} {Q E : Value → Shared → Prop}

set_option maxRecDepth 100000 in
set_option maxHeartbeats 8000000 in
theorem c_decimal {u s0 : Int} {t1 t2 : Tok}
    (B : Below A₀ base outer h₀) (F : Fr h₀ L s.heap m) (X : (hd.heap_39 w.params).In h₀) (N : News h₀ L s.heap news) (T : Top p loose mean mg mb h₀) (hk : cs.kind = .function) (hdp : dp + 3 < recursionLimit) (hun : un + 24 < cLine)
    (h0 : 0 ≤ s0) (hret : PRet h₀ L m news s Q (norm u s0)) :
    wpAny (model PR w) (ktrTop dp un gd cn cs L a ccd cl outer) (call (.ref 70) [.int u t1, .int s0 t2]) Q E s := by
  walk_at "mine fill"
  k_with "exec While BoolOp cons nil" => k_while_given ["units!", "scale!"] (fun u0 s0 _ u s => 0 ≤ s ∧ norm u s = norm u0 s0) (fun _ _ _ _ s => s.toNat) "units" "scale"
  k_with "state" => exact ⟨by omega, norm_step (by assumption) (by assumption) (by assumption)⟩
  refine wpAny_call ?_
  k_dflt (walk_at "mine enter")
  k_steps
  all_goals refine p_end hret (by k_asm) (by assumption) (by k_mem) (by walk_at "mine sub") (by walk_at "mine lt") ?_
  · exact norm_end1 (by assumption) (by assumption) (by assumption)
  · exact norm_end0 (by assumption) (by assumption) (by assumption)

set_option maxRecDepth 100000 in
set_option maxHeartbeats 8000000 in
theorem c_law_plain {u s0 : Int} {t1 t2 : Tok}
    (B : Below A₀ base outer h₀) (F : Fr h₀ L s.heap m) (X : (hd.heap_39 w.params).In h₀) (N : News h₀ L s.heap news) (T : Top p loose mean mg mb h₀) (hk : cs.kind = .function) (hdp : dp + 3 < recursionLimit) (hun : un + 24 < cLine)
    (h0 : 0 ≤ s0) (hret : PRet h₀ L m news s Q (norm u s0)) :
    wpAny (model PR w) (ktrTop dp un gd cn cs L a ccd cl outer) (call (.ref 148) [.int u t1, .int s0 t2]) Q E s := by
  walk_at "mine fill"
  k_with "exec While BoolOp cons nil" => k_while_given ["units!", "scale!"] (fun u0 s0 _ u s => 0 ≤ s ∧ norm u s = norm u0 s0) (fun _ _ _ _ s => s.toNat) "units" "scale"
  k_with "state" => exact ⟨by omega, norm_step (by assumption) (by assumption) (by assumption)⟩
  refine wpAny_call ?_
  k_dflt (walk_at "mine enter")
  k_steps
  all_goals refine p_end hret (by k_asm) (by assumption) (by k_mem) (by walk_at "mine sub") (by walk_at "mine lt") ?_
  · exact norm_end1 (by assumption) (by assumption) (by assumption)
  · exact norm_end0 (by assumption) (by assumption) (by assumption)

set_option maxRecDepth 100000 in
set_option maxHeartbeats 8000000 in
theorem c_cutq {u v : Int} {t1 t2 : Tok}
    (B : Below A₀ base outer h₀) (F : Fr h₀ L s.heap m) (X : (hd.heap_39 w.params).In h₀) (N : News h₀ L s.heap news) (T : Top p loose mean mg mb h₀) (hk : cs.kind = .function) (hdp : dp + 3 < recursionLimit) (hun : un + 24 < cLine)
    (h0 : v ≠ 0) (hv : Lt 200 v) (hret : IRet h₀ L m news s Q (cutq u v)) :
    wpAny (model PR w) (ktrTop dp un gd cn cs L a ccd cl outer) (call (.ref 62) [.int u t1, .int v t2]) Q E s := by
  walk_at "mine fill"
  refine wpAny_call ?_
  k_dflt (walk_at "mine enter")
  k_steps
  all_goals refine i_end hret (by k_asm) (by assumption) (by walk_at "mine sub") ?_
  · exact cutq_t (by assumption)
  · exact cutq_f (by assumption)

set_option maxRecDepth 100000 in
set_option maxHeartbeats 8000000 in
theorem c_fits {u v : Int} {t1 t2 : Tok}
    (B : Below A₀ base outer h₀) (F : Fr h₀ L s.heap m) (X : (hd.heap_39 w.params).In h₀) (N : News h₀ L s.heap news) (T : Top p loose mean mg mb h₀) (hk : cs.kind = .function) (hdp : dp + 3 < recursionLimit) (hun : un + 24 < cLine)
    (hv : v = 120) (hu : Lt 120 u) (hret : BRet h₀ L m news s Q true) :
    wpAny (model PR w) (ktrTop dp un gd cn cs L a ccd cl outer) (call (.ref 127) [.int u t1, .int v t2]) Q E s := by
  walk_at "mine fill"
  refine wpAny_call ?_
  k_dflt (walk_at "mine enter")
  k_steps
  refine b_end hret (by k_asm) (by assumption) (by walk_at "mine sub") (decide_eq_true ?_)
  subst hv
  exact fits_eq hu
end

local macro_rules | `(tactic| walk_at "call ref") => `(tactic| (k_here; k_dflt (refine' c_decimal ?k1 ?k2 ?k3 ?k4 ?k5 ?kK ?kd ?ku ?p1 ?_; (walk_at "mine call"); (case p1 => walk_at "mine pre"); intro D' t1' t2' h' tk' F' N' l'; (try simp only [AllLt, and_true] at l'); (walk_at "mine tidy"))))
local macro_rules | `(tactic| walk_at "call ref") => `(tactic| (k_here; k_dflt (refine' c_law_plain ?k1 ?k2 ?k3 ?k4 ?k5 ?kK ?kd ?ku ?p1 ?_; (walk_at "mine call"); (case p1 => walk_at "mine pre"); intro D' t1' t2' h' tk' F' N' l'; (try simp only [AllLt, and_true] at l'); (walk_at "mine tidy"))))
local macro_rules | `(tactic| walk_at "call ref") => `(tactic| (k_here; k_dflt (refine' c_cutq ?k1 ?k2 ?k3 ?k4 ?k5 ?kK ?kd ?ku ?p1 ?p2 ?_; (walk_at "mine call"); (case p1 => walk_at "mine pre"); (case p2 => walk_at "mine pre"); intro t1' h' tk' F' N'; (walk_at "mine tidy"))))
local macro_rules | `(tactic| walk_at "call ref") => `(tactic| (k_here; k_dflt (refine' c_fits ?k1 ?k2 ?k3 ?k4 ?k5 ?kK ?kd ?ku ?p1 ?p2 ?_; (walk_at "mine call"); (case p1 => walk_at "mine pre"); (case p2 => walk_at "mine pre"); intro h' tk' F' N'; (walk_at "mine tidy"))))
section
variable {w : World} {p : Program} {loose : List Str} {mean : ExcName → Option Value} {mg mb : Str → Option Value} {dp un : Nat} {gd : Option (List Code)} {cn : Str} {cs : Scope} {a : Addr} {ccd : Value} {cl : List (Str × Addr)} {outer : List Env} {A₀ : Around} {base h₀ : Heap} {L : Addr} {m : Str → Option Value} {news : List (Addr × Obj)} {s : Shared} {Q E : Value → Shared → Prop}
set_option maxRecDepth 100000 in
set_option maxHeartbeats 8000000 in
theorem c_kept {u s0 : Int} {t1 t2 : Tok}
    (B : Below A₀ base outer h₀) (F : Fr h₀ L s.heap m) (X : (hd.heap_39 w.params).In h₀) (N : News h₀ L s.heap news) (T : Top p loose mean mg mb h₀) (hk : cs.kind = .function) (hdp : dp + 6 < recursionLimit) (hun : un + 60 < cLine)
    (h0 : 0 ≤ s0) (h1 : s0 ≤ 30) (hu : Lt 120 u) (hret : PRet h₀ L m news s Q (norm u s0)) :
    wpAny (model PR w) (ktrTop dp un gd cn cs L a ccd cl outer) (call (.ref 77) [.int u t1, .int s0 t2]) Q E s := by
  walk_at "mine fill"
  k_with "pre" => exact rfl
  refine wpAny_call ?_
  k_dflt (walk_at "mine enter")
  k_steps
  exact p_end hret (by k_asm) (by assumption) (by k_mem) (by walk_at "mine sub") (by walk_at "mine lt") rfl
end
local macro_rules | `(tactic| walk_at "call ref") => `(tactic| (k_here; k_dflt (refine' c_kept ?k1 ?k2 ?k3 ?k4 ?k5 ?kK ?kd ?ku ?p1 ?p2 ?p3 ?_; (walk_at "mine call"); (case p1 => walk_at "mine pre"); (case p2 => walk_at "mine pre"); (case p3 => walk_at "mine pre"); intro D' t1' t2' h' tk' F' N' l'; (try simp only [AllLt, and_true] at l'); (walk_at "mine tidy"))))
section
variable {w : World} {p : Program} {loose : List Str} {mean : ExcName → Option Value} {mg mb : Str → Option Value} {dp un : Nat} {gd : Option (List Code)} {cn : Str} {cs : Scope} {a : Addr} {ccd : Value} {cl : List (Str × Addr)} {outer : List Env} {A₀ : Around} {base h₀ : Heap} {L : Addr} {m : Str → Option Value} {news : List (Addr × Obj)} {s : Shared} {Q E : Value → Shared → Prop}
set_option maxRecDepth 100000 in
set_option maxHeartbeats 8000000 in
theorem c_units {x y : Addr} {a0 a1 b0 b1 : Int} {t1 t2 t3 t4 : Tok}
    (B : Below A₀ base outer h₀) (F : Fr h₀ L s.heap m) (X : (hd.heap_39 w.params).In h₀) (N : News h₀ L s.heap news) (T : Top p loose mean mg mb h₀) (hk : cs.kind = .function) (hdp : dp + 4 < recursionLimit) (hun : un + 40 < cLine)
    (hx : (x, tup2 a0 a1 t1 t2) ∈ news) (hy : (y, tup2 b0 b1 t3 t4) ∈ news) (ha : 0 ≤ a1) (hb : 0 ≤ b1) (ha' : a1 ≤ 100) (hb' : b1 ≤ 100) (hn : a0.natAbs < 10000) (hm : b0.natAbs < 10000) (hret : TRet h₀ L m news s Q (a0 * 10 ^ ((if b1 > a1 then b1 else a1) - a1).toNat) (b0 * 10 ^ ((if b1 > a1 then b1 else a1) - b1).toNat) (if b1 > a1 then b1 else a1)) :
    wpAny (model PR w) (ktrTop dp un gd cn cs L a ccd cl outer) (call (.ref 84) [.ref x, .ref y]) Q E s := by
  walk_at "mine fill"
  refine wpAny_call ?_
  k_dflt (walk_at "mine enter")
  k_steps
  exact t_end hret (by k_asm) (by assumption) (by k_mem) (by walk_at "mine sub") (by walk_at "mine lt") rfl rfl rfl
end
local macro_rules | `(tactic| walk_at "call ref") => `(tactic| (k_here; k_dflt (refine' c_units ?k1 ?k2 ?k3 ?k4 ?k5 ?kK ?kd ?ku ?p1 ?p2 ?p3 ?p4 ?p5 ?p6 ?p7 ?p8 ?_; (walk_at "mine call"); (case p1 => walk_at "mine pre"); (case p2 => walk_at "mine pre"); (case p3 => walk_at "mine pre"); (case p4 => walk_at "mine pre"); (case p5 => walk_at "mine pre"); (case p6 => walk_at "mine pre"); (case p7 => walk_at "mine pre"); (case p8 => walk_at "mine pre"); intro D' t1' t2' t3' h' tk' F' N' l'; (try simp only [AllLt, and_true] at l'); (walk_at "mine tidy"))))
section
variable {w : World} {p : Program} {loose : List Str} {mean : ExcName → Option Value} {mg mb : Str → Option Value} {dp un : Nat} {gd : Option (List Code)} {cn : Str} {cs : Scope} {a : Addr} {ccd : Value} {cl : List (Str × Addr)} {outer : List Env} {A₀ : Around} {base h₀ : Heap} {L : Addr} {m : Str → Option Value} {news : List (Addr × Obj)} {s : Shared} {Q E : Value → Shared → Prop}
set_option maxRecDepth 100000 in
set_option maxHeartbeats 8000000 in
theorem c_plus {x y : Addr} {a0 a1 b0 b1 : Int} {t1 t2 t3 t4 : Tok}
    (B : Below A₀ base outer h₀) (F : Fr h₀ L s.heap m) (X : (hd.heap_39 w.params).In h₀) (N : News h₀ L s.heap news) (T : Top p loose mean mg mb h₀) (hk : cs.kind = .function) (hdp : dp + 8 < recursionLimit) (hun : un + 80 < cLine)
    (hx : (x, tup2 a0 a1 t1 t2) ∈ news) (hy : (y, tup2 b0 b1 t3 t4) ∈ news) (ha : 0 ≤ a1) (hb : 0 ≤ b1) (ha' : a1 ≤ 100) (hb' : b1 ≤ 100) (hn : a0.natAbs < 10000) (hm : b0.natAbs < 10000) (hret : PRet h₀ L m news s Q (norm (a0 * 10 ^ b1.toNat + b0 * 10 ^ a1.toNat) (a1 + b1))) :
    wpAny (model PR w) (ktrTop dp un gd cn cs L a ccd cl outer) (call (.ref 91) [.ref x, .ref y]) Q E s := by
  walk_at "mine fill"
  rw [← plus_eq ha hb] at hret
  refine wpAny_call ?_
  k_dflt (walk_at "mine enter")
  k_steps
  exact p_end hret (by k_asm) (by assumption) (by k_mem) (by walk_at "mine sub") (by walk_at "mine lt") rfl
end
local macro_rules | `(tactic| walk_at "call ref") => `(tactic| (k_here; k_dflt (refine' c_plus ?k1 ?k2 ?k3 ?k4 ?k5 ?kK ?kd ?ku ?p1 ?p2 ?p3 ?p4 ?p5 ?p6 ?p7 ?p8 ?_; (walk_at "mine call"); (case p1 => walk_at "mine pre"); (case p2 => walk_at "mine pre"); (case p3 => walk_at "mine pre"); (case p4 => walk_at "mine pre"); (case p5 => walk_at "mine pre"); (case p6 => walk_at "mine pre"); (case p7 => walk_at "mine pre"); (case p8 => walk_at "mine pre"); intro D' t1' t2' h' tk' F' N' l'; (try simp only [AllLt, and_true] at l'); (walk_at "mine tidy"))))
section
variable {w : World} {p : Program} {loose : List Str} {mean : ExcName → Option Value} {mg mb : Str → Option Value} {dp un : Nat} {gd : Option (List Code)} {cn : Str} {cs : Scope} {a : Addr} {ccd : Value} {cl : List (Str × Addr)} {outer : List Env} {A₀ : Around} {base h₀ : Heap} {L : Addr} {m : Str → Option Value} {news : List (Addr × Obj)} {s : Shared} {Q E : Value → Shared → Prop}
set_option maxRecDepth 100000 in
set_option maxHeartbeats 8000000 in
theorem c_minus {x y : Addr} {a0 a1 b0 b1 : Int} {t1 t2 t3 t4 : Tok}
    (B : Below A₀ base outer h₀) (F : Fr h₀ L s.heap m) (X : (hd.heap_39 w.params).In h₀) (N : News h₀ L s.heap news) (T : Top p loose mean mg mb h₀) (hk : cs.kind = .function) (hdp : dp + 8 < recursionLimit) (hun : un + 80 < cLine)
    (hx : (x, tup2 a0 a1 t1 t2) ∈ news) (hy : (y, tup2 b0 b1 t3 t4) ∈ news) (ha : 0 ≤ a1) (hb : 0 ≤ b1) (ha' : a1 ≤ 100) (hb' : b1 ≤ 100) (hn : a0.natAbs < 10000) (hm : b0.natAbs < 10000) (hret : PRet h₀ L m news s Q (norm (a0 * 10 ^ b1.toNat - b0 * 10 ^ a1.toNat) (a1 + b1))) :
    wpAny (model PR w) (ktrTop dp un gd cn cs L a ccd cl outer) (call (.ref 98) [.ref x, .ref y]) Q E s := by
  walk_at "mine fill"
  rw [← minus_eq ha hb] at hret
  refine wpAny_call ?_
  k_dflt (walk_at "mine enter")
  k_steps
  exact p_end hret (by k_asm) (by assumption) (by k_mem) (by walk_at "mine sub") (by walk_at "mine lt") rfl
end
local macro_rules | `(tactic| walk_at "call ref") => `(tactic| (k_here; k_dflt (refine' c_minus ?k1 ?k2 ?k3 ?k4 ?k5 ?kK ?kd ?ku ?p1 ?p2 ?p3 ?p4 ?p5 ?p6 ?p7 ?p8 ?_; (walk_at "mine call"); (case p1 => walk_at "mine pre"); (case p2 => walk_at "mine pre"); (case p3 => walk_at "mine pre"); (case p4 => walk_at "mine pre"); (case p5 => walk_at "mine pre"); (case p6 => walk_at "mine pre"); (case p7 => walk_at "mine pre"); (case p8 => walk_at "mine pre"); intro D' t1' t2' h' tk' F' N' l'; (try simp only [AllLt, and_true] at l'); (walk_at "mine tidy"))))
section
variable {w : World} {p : Program} {loose : List Str} {mean : ExcName → Option Value} {mg mb : Str → Option Value} {dp un : Nat} {gd : Option (List Code)} {cn : Str} {cs : Scope} {a : Addr} {ccd : Value} {cl : List (Str × Addr)} {outer : List Env} {A₀ : Around} {base h₀ : Heap} {L : Addr} {m : Str → Option Value} {news : List (Addr × Obj)} {s : Shared} {Q E : Value → Shared → Prop}
set_option maxRecDepth 100000 in
set_option maxHeartbeats 8000000 in
theorem c_times {x y : Addr} {a0 a1 b0 b1 : Int} {t1 t2 t3 t4 : Tok}
    (B : Below A₀ base outer h₀) (F : Fr h₀ L s.heap m) (X : (hd.heap_39 w.params).In h₀) (N : News h₀ L s.heap news) (T : Top p loose mean mg mb h₀) (hk : cs.kind = .function) (hdp : dp + 8 < recursionLimit) (hun : un + 80 < cLine)
    (hx : (x, tup2 a0 a1 t1 t2) ∈ news) (hy : (y, tup2 b0 b1 t3 t4) ∈ news) (ha : 0 ≤ a1 + b1) (hb : a1 + b1 ≤ 30) (hn : Lt 120 (a0 * b0)) (hm : b0.natAbs < 10000) (hret : PRet h₀ L m news s Q (norm (a0 * b0) (a1 + b1))) :
    wpAny (model PR w) (ktrTop dp un gd cn cs L a ccd cl outer) (call (.ref 105) [.ref x, .ref y]) Q E s := by
  walk_at "mine fill"
  refine wpAny_call ?_
  k_dflt (walk_at "mine enter")
  k_steps
  exact p_end hret (by k_asm) (by assumption) (by k_mem) (by walk_at "mine sub") (by walk_at "mine lt") rfl
end
local macro_rules | `(tactic| walk_at "call ref") => `(tactic| (k_here; k_dflt (refine' c_times ?k1 ?k2 ?k3 ?k4 ?k5 ?kK ?kd ?ku ?p1 ?p2 ?p3 ?p4 ?p5 ?p6 ?_; (walk_at "mine call"); (case p1 => walk_at "mine pre"); (case p2 => walk_at "mine pre"); (case p3 => walk_at "mine pre"); (case p4 => walk_at "mine pre"); (case p5 => walk_at "mine pre"); (case p6 => walk_at "mine pre"); intro D' t1' t2' h' tk' F' N' l'; (try simp only [AllLt, and_true] at l'); (walk_at "mine tidy"))))
section
variable {w : World} {p : Program} {loose : List Str} {mean : ExcName → Option Value} {mg mb : Str → Option Value} {dp un : Nat} {gd : Option (List Code)} {cn : Str} {cs : Scope} {a : Addr} {ccd : Value} {cl : List (Str × Addr)} {outer : List Env} {A₀ : Around} {base h₀ : Heap} {L : Addr} {m : Str → Option Value} {news : List (Addr × Obj)} {s : Shared} {Q E : Value → Shared → Prop}
set_option maxRecDepth 100000 in
set_option maxHeartbeats 8000000 in
theorem c_quot {x y : Addr} {a0 a1 b0 b1 : Int} {t1 t2 t3 t4 : Tok}
    (B : Below A₀ base outer h₀) (F : Fr h₀ L s.heap m) (X : (hd.heap_39 w.params).In h₀) (N : News h₀ L s.heap news) (T : Top p loose mean mg mb h₀) (hk : cs.kind = .function) (hdp : dp + 8 < recursionLimit) (hun : un + 80 < cLine)
    (hx : (x, tup2 a0 a1 t1 t2) ∈ news) (hy : (y, tup2 b0 b1 t3 t4) ∈ news) (ha : 0 ≤ a1) (hb : 0 ≤ b1) (ha' : a1 ≤ 50) (hb' : b1 ≤ 50) (hn : a0.natAbs < 10000) (hm : Lt 150 b0) (hz : b0 ≠ 0) (hret : PRet h₀ L m news s Q (norm (cutq (a0 * 10 ^ (30 + b1).toNat) (b0 * 10 ^ a1.toNat)) 30)) :
    wpAny (model PR w) (ktrTop dp un gd cn cs L a ccd cl outer) (call (.ref 113) [.ref x, .ref y]) Q E s := by
  walk_at "mine fill"
  k_with "pre" => first | exact mul_pow_nz (by assumption) | exact natAbs_mul_pow_lt (n := 150) (c := 50) (by assumption) (by assumption)
  refine wpAny_call ?_
  k_dflt (walk_at "mine enter")
  k_steps
  · exact absurd (by assumption) hz
  · exact p_end hret (by k_asm) (by assumption) (by k_mem) (by walk_at "mine sub") (by walk_at "mine lt") rfl
end
local macro_rules | `(tactic| walk_at "call ref") => `(tactic| (k_here; k_dflt (refine' c_quot ?k1 ?k2 ?k3 ?k4 ?k5 ?kK ?kd ?ku ?p1 ?p2 ?p3 ?p4 ?p5 ?p6 ?p7 ?p8 ?p9 ?_; (walk_at "mine call"); (case p1 => walk_at "mine pre"); (case p2 => walk_at "mine pre"); (case p3 => walk_at "mine pre"); (case p4 => walk_at "mine pre"); (case p5 => walk_at "mine pre"); (case p6 => walk_at "mine pre"); (case p7 => walk_at "mine pre"); (case p8 => walk_at "mine pre"); (case p9 => walk_at "mine pre"); intro D' t1' t2' h' tk' F' N' l'; (try simp only [AllLt, and_true] at l'); (walk_at "mine tidy"))))
section
variable {w : World} {p : Program} {loose : List Str} {mean : ExcName → Option Value} {mg mb : Str → Option Value} {dp un : Nat} {gd : Option (List Code)} {cn : Str} {cs : Scope} {a : Addr} {ccd : Value} {cl : List (Str × Addr)} {outer : List Env} {A₀ : Around} {base h₀ : Heap} {L : Addr} {m : Str → Option Value} {news : List (Addr × Obj)} {s : Shared} {Q E : Value → Shared → Prop}
set_option maxRecDepth 100000 in
set_option maxHeartbeats 8000000 in
theorem c_law_quot {u v : Int} {t1 t2 : Tok}
    (B : Below A₀ base outer h₀) (F : Fr h₀ L s.heap m) (X : (hd.heap_39 w.params).In h₀) (N : News h₀ L s.heap news) (T : Top p loose mean mg mb h₀) (hk : cs.kind = .function) (hdp : dp + 8 < recursionLimit) (hun : un + 80 < cLine)
    (h0 : v ≠ 0) (hv : Lt 200 v) (hu : u.natAbs < 10 ^ 18) (hret : PRet h₀ L m news s Q (norm (lawq u v) 30)) :
    wpAny (model PR w) (ktrTop dp un gd cn cs L a ccd cl outer) (call (.ref 155) [.int u t1, .int v t2]) Q E s := by
  walk_at "mine fill"
  refine wpAny_call ?_
  k_dflt (walk_at "mine enter")
  k_steps
  · exact p_end hret (by k_asm) (by assumption) (by k_mem) (by walk_at "mine sub") (by walk_at "mine lt") (lawq_t (by assumption))
  · exact p_end hret (by k_asm) (by assumption) (by k_mem) (by walk_at "mine sub") (by walk_at "mine lt") (lawq_f (by assumption))
end
local macro_rules | `(tactic| walk_at "call ref") => `(tactic| (k_here; k_dflt (refine' c_law_quot ?k1 ?k2 ?k3 ?k4 ?k5 ?kK ?kd ?ku ?p1 ?p2 ?p3 ?_; (walk_at "mine call"); (case p1 => walk_at "mine pre"); (case p2 => walk_at "mine pre"); (case p3 => walk_at "mine pre"); intro D' t1' t2' h' tk' F' N' l'; (try simp only [AllLt, and_true] at l'); (walk_at "mine tidy"))))

section
variable {prog : Program} {w : World} {A : Around} {E : Value → Shared → Prop} {s : Shared} {env : Env} {h₀ : Heap} {x y : Str} {body : List Stmt} {Q : Flow → Shared → Prop}
/-- what a turn of the power's loop leaves: a new pair under the name y, all else as it was -/
def PowEnd (h₀ : Heap) (L : Addr) (x y : Str) (m₀ : Str → Option Value) (led : List (Addr × Obj)) (J : Int → Int → Prop) (s₁ : Shared) (f : Flow) (s₂ : Shared) : Prop :=
  f = .next ∧ ∃ h' tk m' D g0 g1 t1 t2, s₂ = { s₁ with heap := h', toks := tk } ∧ Fr h₀ L h' m' ∧ News h₀ L h' ((D, tup2 g0 g1 t1 t2) :: led) ∧ AllLt D led ∧ m' y = some (.ref D) ∧ (∀ z, z ≠ x → z ≠ y → m' z = m₀ z) ∧ J g0 g1
theorem pow_range {r : Addr} {b₀ : Int} {t₀ u₀ v₀ : Tok} {n : Nat} {m₀ : Str → Option Value} {news : List (Addr × Obj)} {D : Addr} {f0 f1 : Int} {t1 t2 : Tok} (J : Nat → Int → Int → Prop)
    (hh : A.handled = none) (hr : IsRange s.heap r 0 b₀ 1 t₀ u₀ v₀) (hb : b₀ = (n : Int)) (hn : n ≤ 1000) (hxy : y ≠ x)
    (F : Fr h₀ env.locals s.heap m₀) (N : News h₀ env.locals s.heap ((D, tup2 f0 f1 t1 t2) :: news)) (hl : AllLt D news) (hy : m₀ y = some (.ref D)) (hj : J 0 f0 f1)
    (turn : ∀ (i : Nat) f0 f1 D t t1 t2 h tk led, i < n → J i f0 f1 → (D, tup2 f0 f1 t1 t2) ∈ led → (∀ p ∈ news, p ∈ led) →
      Fr h₀ env.locals h (fun z => if z = x then some (.int i t) else if z = y then some (.ref D) else m₀ z) → News h₀ env.locals h led →
      wpAny (model prog w) A (execs body env) (PowEnd h₀ env.locals x y m₀ led (J (i + 1)) { s with heap := h, toks := tk }) E { s with heap := h, toks := tk })
    (done : ∀ f0 f1 D t1 t2 (u : Option Value) h tk, J n f0 f1 → AllLt D news → Fr h₀ env.locals h (fun z => if z = x then u else if z = y then some (.ref D) else m₀ z) → News h₀ env.locals h ((D, tup2 f0 f1 t1 t2) :: news) → Q .next { s with heap := h, toks := tk }) :
    wpAny (model prog w) A (pyIter (.ref r)) (fun it s₂ => LoopAtV prog w A h₀ env x body Q E it s₂) E s := by
  subst hb
  have hsmall : Builtin.Range.small 0 (n : Int) 1 = true := small_one (by decide) (by decide) (by omega) (by omega)
  have hsz : Builtin.Range.rangeSize 0 (n : Int) 1 = (n : Int) := by rw [rangeSize_nat]; omega
  refine wpAny_pyIter_range hr hsmall ?_
  have W : Walks prog w A s.heap.objs.size [s.heap.objs.size] [s.heap.objs.size] n (fun i v => i < n ∧ ∃ t, v = .int (0 + i * 1) t)
      (fun i h => IsRangeIter h s.heap.objs.size (0 + (i : Nat) * 1) ((n : Int) - (i : Nat)) 1) := (Walks.range hh _ 0 1 n).bound
  refine kdr_loop (fun i m nx => ∃ D f0 f1 t1 t2, nx = (D, tup2 f0 f1 t1 t2) :: news ∧ AllLt D news ∧ m y = some (.ref D) ∧ (∀ z, z ≠ x → z ≠ y → m z = m₀ z) ∧ J i f0 f1) W (fun _ h => h) (fun _ h => h) ?_ ?_ ?_ ?_ (by show IsRangeIter _ _ _ _ _; rw [hsz]; simpa using Heap.get?_push_size _ rfl) (F.push _) (fun p hp => ⟨Heap.get?_push_of_some _ (N p hp).1, (N p hp).2⟩) ⟨D, f0, f1, t1, t2, rfl, hl, hy, fun _ _ _ => rfl, hj⟩ ?_ ?_
  · intro i h hi b hb
    rw [List.mem_singleton.mp hb]
    exact ⟨_, hi⟩
  · intro hm
    exact absurd F.ns.lt ((List.mem_singleton.mp hm) ▸ Nat.lt_irrefl _)
  · intro b hb
    rw [List.mem_singleton.mp hb]
    exact next_is_new F
  · intro p hp hI
    exact absurd (Heap.lt_size (N p hp).1) ((List.mem_singleton.mp hI) ▸ Nat.lt_irrefl _)
  · rintro i v m₁ nx h tk own hi ⟨_, t, rfl⟩ hoff ⟨D, f0, f1, t1, t2, rfl, hl, hy, hz, hj⟩ F₁ N₁
    have e1 : (0 : Int) + (i : Int) * 1 = (i : Int) := by omega
    rw [e1] at F₁
    have em : (fun z => if z = x then some (.int (i : Int) t) else m₁ z) = (fun z => if z = x then some (.int (i : Int) t) else if z = y then some (.ref D) else m₀ z) := by
      funext z
      by_cases h1 : z = x
      · rw [if_pos h1, if_pos h1]
      · rw [if_neg h1, if_neg h1]
        by_cases h2 : z = y
        · rw [if_pos h2, h2]; exact hy
        · rw [if_neg h2]; exact hz z h1 h2
    rw [em] at F₁
    refine wpAny_mono (turn i f0 f1 D t t1 t2 h tk _ hi hj (List.mem_append_left _ (.head _)) (fun p hp => List.mem_append_left _ (.tail _ hp)) F₁ N₁) (fun f s₃ q => ?_) fun _ _ e => e
    obtain ⟨rfl, h', tk', m', D', g0, g1, u1, u2, rfl, F', N', hl', hy', hz', hj'⟩ := q
    have lt := ktn_ltOf hl'
    refine InvEndG.intro F' N' ⟨D', g0, g1, u1, u2, rfl, allLt_of fun p hp => lt p (List.mem_append_left _ (.tail _ hp)), hy', hz', hj'⟩ ?_ ?_ ?_
    · intro p hp b hb
      rw [List.map_cons] at hb
      rcases List.mem_cons.mp hb with rfl | hb
      · exact Nat.ne_of_lt (lt p (List.mem_append_right _ hp))
      · exact hoff p hp b (List.mem_cons_of_mem _ hb)
    · intro p hp
      rcases List.mem_cons.mp hp with rfl | hp
      · exact .head _
      · exact .tail _ (List.mem_append_left _ (.tail _ hp))
    · exact fun p hp => .tail _ (List.mem_append_right _ hp)
  · rintro m₁ nx h tk ⟨D, f0, f1, t1, t2, rfl, hl, hy, hz, hj⟩ F₁ N₁
    refine done f0 f1 D t1 t2 (m₁ x) h tk hj hl ?_ N₁
    have em : m₁ = (fun z => if z = x then m₁ x else if z = y then some (.ref D) else m₀ z) := by
      funext z
      by_cases h1 : z = x
      · rw [if_pos h1, h1]
      · rw [if_neg h1]
        by_cases h2 : z = y
        · rw [if_pos h2, h2]; exact hy
        · rw [if_neg h2]; exact hz z h1 h2
    rw [← em]
    exact F₁
end
theorem pow_end {h₀ h' : Heap} {L D : Addr} {x y : Str} {m₀ m' : Str → Option Value} {led news' : List (Addr × Obj)} {J : Int → Int → Prop} {s : Shared} {g0 g1 : Int} {t1 t2 : Tok} {tk : Nat} (F : Fr h₀ L h' m') (N : News h₀ L h' news') (hm : (D, tup2 g0 g1 t1 t2) ∈ news') (hn : ∀ p ∈ led, p ∈ news') (hl : AllLt D led) (hy : m' y = some (.ref D)) (hz : ∀ z, z ≠ x → z ≠ y → m' z = m₀ z) (hj : J g0 g1) :
    PowEnd h₀ L x y m₀ led J s .next { s with heap := h', toks := tk } := ⟨rfl, h', tk, m', D, g0, g1, t1, t2, rfl, F, fun p hp => (List.mem_cons.mp hp).elim (fun q => q ▸ N _ hm) fun q => N p (hn p q), hl, hy, hz, hj⟩

theorem normN_spec (s : Nat) : ∀ u : Int, ∃ j : Nat, u = (normN s u).1 * 10 ^ j ∧ (s : Int) = (normN s u).2 + j ∧ 0 ≤ (normN s u).2 := by
  induction s with
  | zero => intro u; exact ⟨0, by simp [normN], by simp [normN], by simp [normN]⟩
  | succ s ih =>
    intro u
    by_cases h : u.fmod 10 = 0
    · obtain ⟨j, h1, h2, h3⟩ := ih (u.fdiv 10)
      have e : normN (s + 1) u = normN s (u.fdiv 10) := by rw [normN, if_pos h]
      rw [e]
      refine ⟨j + 1, ?_, by omega, h3⟩
      have hu : u = u.fdiv 10 * 10 := by
        have := Int.mul_fdiv_add_fmod u 10
        rw [h] at this
        omega
      rw [Int.pow_succ, ← Int.mul_assoc, ← h1]
      exact hu
    · have e : normN (s + 1) u = (u, (s : Int) + 1) := by rw [normN, if_neg h]
      rw [e]
      exact ⟨0, by simp, by simp, by show (0 : Int) ≤ (s : Int) + 1; omega⟩
theorem norm_spec {u s : Int} (hs : 0 ≤ s) : ∃ j : Nat, u = (norm u s).1 * 10 ^ j ∧ s = (norm u s).2 + j ∧ 0 ≤ (norm u s).2 := by
  obtain ⟨j, h1, h2, h3⟩ := normN_spec s.toNat u
  exact ⟨j, h1, by rw [← show ((s.toNat : Nat) : Int) = s by omega]; exact h2, h3⟩
def powv (a0 a1 b0 : Int) : Int × Int := if b0 < 0 then norm (lawq (10 ^ (a1 * -b0).toNat) (a0 ^ (-b0).toNat)) 30 else norm (a0 ^ b0.toNat) (a1 * b0)
theorem pow_facts {a0 a1 : Int} {i n : Nat} {f0 f1 : Int} (hi : i < n) (ha : 0 ≤ a1) (ha' : a1 * (n : Int) ≤ 30) (hp : ∀ k : Nat, k ≤ n → Lt 100 (a0 ^ k)) (j : (f0, f1) = norm (a0 ^ i) (a1 * (i : Int))) :
    0 ≤ f1 + a1 ∧ f1 + a1 ≤ 30 ∧ Lt 120 (f0 * a0) ∧ norm (f0 * a0) (f1 + a1) = norm (a0 ^ (i + 1)) (a1 * ((i + 1 : Nat) : Int)) := by
  have hs : 0 ≤ a1 * (i : Int) := Int.mul_nonneg ha (by omega)
  obtain ⟨k, h1, h2, h3⟩ := norm_spec (u := a0 ^ i) hs
  rw [← j] at h1 h2 h3
  dsimp only at h1 h2 h3
  have hle : a1 * ((i + 1 : Nat) : Int) ≤ a1 * (n : Int) := Int.mul_le_mul_of_nonneg_left (by omega) ha
  have hs1 : a1 * ((i + 1 : Nat) : Int) = a1 * (i : Int) + a1 := by rw [Int.natCast_add, Int.mul_add]; simp
  refine ⟨by omega, by omega, ?_, ?_⟩
  · have hb := hp (i + 1) hi
    unfold Lt at *
    have e : a0 ^ (i + 1) = (f0 * a0) * 10 ^ k := by rw [Int.pow_succ, h1, Int.mul_assoc, Int.mul_comm (10 ^ k) a0, ← Int.mul_assoc]
    rw [e, Int.natAbs_mul] at hb
    have hk : 0 < ((10 : Int) ^ k).natAbs := by rw [Int.natAbs_pow]; exact Nat.pow_pos (by decide)
    exact Nat.lt_of_le_of_lt (Nat.le_mul_of_pos_right _ hk) (Nat.lt_trans hb (Nat.pow_lt_pow_right (by decide) (by decide)))
  · rw [hs1, h2, show f1 + (k : Int) + a1 = f1 + a1 + (k : Int) by omega, Int.pow_succ, h1, Int.mul_assoc, Int.mul_comm (10 ^ k) a0, ← Int.mul_assoc, norm_mul (by omega)]
theorem lawq_scale {t b : Int} {j : Nat} : lawq (t * 10 ^ j) (b * 10 ^ j) = lawq t b := by
  have hp : (0 : Int) < 10 ^ j := Int.pow_pos (by decide)
  have hpp : (0 : Int) < 10 ^ j * 10 ^ j := Int.mul_pos hp hp
  have e : t * 10 ^ j * (b * 10 ^ j) = t * b * (10 ^ j * 10 ^ j) := by
    rw [Int.mul_assoc, ← Int.mul_assoc (10 ^ j) b, Int.mul_comm (10 ^ j) b, Int.mul_assoc b, ← Int.mul_assoc]
  have key : t * 10 ^ j * (b * 10 ^ j) < 0 ↔ t * b < 0 := by
    rw [e]
    constructor
    · intro h
      by_cases hc : t * b < 0
      · exact hc
      · exact absurd h (Int.not_lt.mpr (Int.mul_nonneg (by omega) (Int.le_of_lt hpp)))
    · exact fun h => Int.mul_neg_of_neg_of_pos h hpp
  have hd : ((if t * 10 ^ j < 0 then -(t * 10 ^ j) else t * 10 ^ j) * 10 ^ (30 : Int).toNat).fdiv (if b * 10 ^ j < 0 then -(b * 10 ^ j) else b * 10 ^ j) = ((if t < 0 then -t else t) * 10 ^ (30 : Int).toNat).fdiv (if b < 0 then -b else b) := by
    rw [iabs_mul_pow, iabs_mul_pow]
    have hb : 0 ≤ (if b < 0 then -b else b) := by split <;> omega
    rw [Int.fdiv_eq_ediv_of_nonneg _ hb, Int.fdiv_eq_ediv_of_nonneg _ (Int.mul_nonneg hb (Int.le_of_lt hp)), Int.mul_assoc, Int.mul_comm (10 ^ j), ← Int.mul_assoc]
    exact Int.mul_ediv_mul_of_pos_left _ _ hp
  unfold lawq
  rw [hd]
  by_cases hc : t * b < 0
  · rw [if_pos hc, if_pos (key.mpr hc)]
  · rw [if_neg hc, if_neg (fun q => hc (key.mp q))]
theorem pown_eq {a0 a1 f0 f1 : Int} {n : Nat} (ha : 0 ≤ a1) (h0 : a0 ≠ 0) (j : (f0, f1) = norm (a0 ^ n) (a1 * (n : Int))) : cutq (1 * 10 ^ (30 + f1).toNat) (f0 * 10 ^ (0 : Int).toNat) = lawq (10 ^ (a1 * (n : Int)).toNat) (a0 ^ n) := by
  have hs : 0 ≤ a1 * (n : Int) := Int.mul_nonneg ha (by omega)
  obtain ⟨k, h1, h2, h3⟩ := norm_spec (u := a0 ^ n) hs
  rw [← j] at h1 h2 h3
  dsimp only at h1 h2 h3
  have hf : f0 ≠ 0 := by
    intro h
    rw [h, Int.zero_mul] at h1
    exact absurd h1 (Int.pow_ne_zero h0)
  rw [quot_eq (a1 := 0) h3 hf, h1, h2, show (f1 + (k : Int)).toNat = f1.toNat + k by omega, Int.pow_add, lawq_scale]
  simp
theorem pown_facts {a0 a1 f0 f1 : Int} {n : Nat} (ha : 0 ≤ a1) (h0 : a0 ≠ 0) (ha' : a1 * (n : Int) ≤ 30) (hp : Lt 100 (a0 ^ n)) (j : (f0, f1) = norm (a0 ^ n) (a1 * (n : Int))) : f0 ≠ 0 ∧ 0 ≤ f1 ∧ f1 ≤ 50 ∧ Lt 150 f0 := by
  have hs : 0 ≤ a1 * (n : Int) := Int.mul_nonneg ha (by omega)
  obtain ⟨k, h1, h2, h3⟩ := norm_spec (u := a0 ^ n) hs
  rw [← j] at h1 h2 h3
  dsimp only at h1 h2 h3
  have hf : f0 ≠ 0 := by
    intro h
    rw [h, Int.zero_mul] at h1
    exact absurd h1 (Int.pow_ne_zero h0)
  refine ⟨hf, h3, by omega, ?_⟩
  unfold Lt at *
  rw [h1, Int.natAbs_mul] at hp
  have hk : 0 < ((10 : Int) ^ k).natAbs := by rw [Int.natAbs_pow]; exact Nat.pow_pos (by decide)
  exact Nat.lt_of_le_of_lt (Nat.le_mul_of_pos_right _ hk) (Nat.lt_trans hp (Nat.pow_lt_pow_right (by decide) (by decide)))
theorem powv_neg {a0 a1 b0 f0 f1 : Int} (ha : 0 ≤ a1) (h0 : a0 ≠ 0) (hb : b0 < 0) (j : (f0, f1) = norm (a0 ^ b0.natAbs) (a1 * (b0.natAbs : Int))) : norm (cutq (1 * 10 ^ (30 + f1).toNat) (f0 * 10 ^ (0 : Int).toNat)) 30 = powv a0 a1 b0 := by
  rw [pown_eq ha h0 j, powv, if_pos hb, show (b0.natAbs : Int) = -b0 by omega, show b0.natAbs = (-b0).toNat by omega]
theorem powv_pos {a0 a1 b0 f0 f1 : Int} (hb : ¬ b0 < 0) (j : (f0, f1) = norm (a0 ^ b0.natAbs) (a1 * (b0.natAbs : Int))) : (f0, f1) = powv a0 a1 b0 := by
  rw [j, powv, if_neg hb, show (b0.natAbs : Int) = b0 by omega, show b0.natAbs = b0.toNat by omega]
local macro_rules | `(tactic| walk_at "pyIter ref") => `(tactic| (k_here; k_dflt (k_extra "mine loop")))
section
variable {w : World} {p : Program} {loose : List Str} {mean : ExcName → Option Value} {mg mb : Str → Option Value} {dp un : Nat} {gd : Option (List Code)} {cn : Str} {cs : Scope} {a : Addr} {ccd : Value} {cl : List (Str × Addr)} {outer : List Env} {A₀ : Around} {base h₀ : Heap} {L : Addr} {m : Str → Option Value} {news : List (Addr × Obj)} {s : Shared} {Q E : Value → Shared → Prop}
set_option maxRecDepth 100000 in
set_option maxHeartbeats 8000000 in
theorem c_power {x y : Addr} {a0 a1 b0 : Int} {t1 t2 t3 t4 : Tok}
    (B : Below A₀ base outer h₀) (F : Fr h₀ L s.heap m) (X : (hd.heap_39 w.params).In h₀) (N : News h₀ L s.heap news) (T : Top p loose mean mg mb h₀) (hk : cs.kind = .function) (hdp : dp + 20 < recursionLimit) (hun : un + 200 < cLine)
    (hx : (x, tup2 a0 a1 t1 t2) ∈ news) (hy : (y, tup2 b0 0 t3 t4) ∈ news) (ha : 0 ≤ a1) (ha' : a1 * (b0.natAbs : Int) ≤ 30) (hn : a0.natAbs < 10000) (hb : b0.natAbs ≤ 99) (hz : ¬ (a0 = 0 ∧ b0 < 1)) (hp : ∀ k : Nat, k ≤ b0.natAbs → Lt 100 (a0 ^ k)) (hret : PRet h₀ L m news s Q (powv a0 a1 b0)) :
    wpAny (model PR w) (ktrTop dp un gd cn cs L a ccd cl outer) (call (.ref 120) [.ref x, .ref y]) Q E s := by
  walk_at "mine fill"
  k_with "mine loop" => ((k_dflt (refine' pow_range (x := Str.ofString "turn") (y := Str.ofString "found") (n := b0.natAbs) (fun i f0 f1 => (f0, f1) = norm (a0 ^ i) (a1 * (i : Int))) ?hh ?hr ?hb ?hn ?hxy ?F ?N ?hl ?hy ?hj ?_ ?_)); (case hh => rfl); (case hr => assumption); (case hb => split <;> omega); (case hn => omega); (case hxy => decide); (case F => k_asm); (case N => assumption); (case hl => exact allLt_of (by assumption)); (case hy => rfl); (case hj => simp [norm, normN]); rotate_left; (intro f0 f1 D u1 u2 u h tk hj hl F' N'; (try k_fold)); rotate_left; (intro i f0 f1 D t u1 u2 h tk led hi hj hm hsub F' N'; (have hx' := hsub _ hx); (obtain ⟨g1, g2, g3, g4⟩ := pow_facts hi ha ha' hp hj); (try k_fold)))
  k_with "pre" => first | exact (pown_facts ha (by assumption) ha' (hp _ (Nat.le_refl _)) (by assumption)).1 | exact (pown_facts ha (by assumption) ha' (hp _ (Nat.le_refl _)) (by assumption)).2.1 | exact (pown_facts ha (by assumption) ha' (hp _ (Nat.le_refl _)) (by assumption)).2.2.1 | exact (pown_facts ha (by assumption) ha' (hp _ (Nat.le_refl _)) (by assumption)).2.2.2
  refine wpAny_call ?_
  k_dflt (walk_at "mine enter")
  k_steps
  all_goals first
    | exact pow_end (by k_asm) (by assumption) (by k_mem) (by walk_at "mine sub") (by assumption) rfl (by intro z h1 h2; simp only [h1, h2, if_false]) (by assumption)
    | exact p_end hret (by k_asm) (by assumption) (by k_mem) (by walk_at "mine sub") (by walk_at "mine lt") (powv_pos (by omega) (by assumption))
    | exact p_end hret (by k_asm) (by assumption) (by k_mem) (by walk_at "mine sub") (by walk_at "mine lt") (powv_neg ha (by omega) (by assumption) (by assumption))
end

section
open PySem
variable {M : Model} {A : Around} {E : Value → Shared → Prop} {h : Heap} {g : Array GenState} {d : Drawn} {t : Nat} {os : OsState}
variable {nm q : Str} {C N : Addr} {bs bm : List Value} {hdct : Bool} {sn : List Str} {sub : List Value} {ab : Bool} {col : Option Bool} {dd : Option Addr} {k0 k1 k2 k3 k5 : Option Value}
theorem fx_check_new (hcE : bm.contains (.type "Exception") = true) {rest : List Value} {Q : Unit → Shared → Prop} (hC : h.get? C = some (excClassObj nm q C N bs bm hdct sn sub ab col dd k0 k1 k2 k3 k5 "Exception.__new__"))
    (hq : Q () ⟨h, g, d, t, os⟩) : wpAny M A (checkBuiltinCall "Exception.__new__" ⟨.ref C :: rest, []⟩) Q E ⟨h, g, d, t, os⟩ := by
  have Fn := PySem.F.excBase_Exception
  have hcont : (Value.ref C :: bm).contains (.type "Exception") = true := by rw [List.contains_cons, hcE, Bool.or_true]
  have hstar := Fn.noStar
  simp only [checkBuiltinCall, Fn.newKind, Fn.newSplit, Fn.newRow]
  repeat (first | refine wpAny_loadPart_at hC ?_ | (refine wpAny_isSubtype_exc hC ?_; rw [hcont]) | refine wpAny_staticBase_exc hC ?_ | refine wpAny_madeBy_exc hC ?_ | simp only [bne_self_eq_false, Bool.false_eq_true, if_false] | wp_step)
  exact hq
end
section
open PySem
variable {prog : Program} {w : World} {A : Around} {R : Result → Shared → Prop} {E : Value → Shared → Prop} {h : Heap} {g : Array GenState} {d : Drawn} {t : Nat} {os : OsState}
variable {nm q : Str} {C N : Addr} {bs bm : List Value} {hdct : Bool} {sn : List Str} {sub : List Value} {ab : Bool} {col : Option Bool} {dd : Option Addr} {k0 k1 k2 k3 k5 : Option Value}
theorem fx_new (hcE : bm.contains (.type "Exception") = true) (hA : bm.contains (.type "AttributeError") = false) (hN : bm.contains (.type "NameError") = false) {rest : List Value} (hC : h.get? C = some (excClassObj nm q C N bs bm hdct sn sub ab col dd k0 k1 k2 k3 k5 "Exception.__new__"))
    (hq : R (.ok (.ret (.ref (h.objs.size + 1)))) ⟨(h.push { cls := .type "tuple", data := .seq rest.toArray }).push
      { cls := .ref C, data := .fields #[.ref h.objs.size, .none, .none, .none, .bool false, .none] }, g, d, t, os⟩) (hrest : rest.length ≤ sizeLine) :
    codeAny (model prog w) A (.builtin "Exception.__new__" ⟨.ref C :: rest, []⟩) R ⟨h, g, d, t, os⟩ := by
  have Fn := PySem.F.excBase_Exception
  have hends := Fn.ends
  have hcB : (Value.ref C :: bm).contains (.type "Exception") = true := by rw [List.contains_cons, hcE, Bool.or_true]
  have hcA : (Value.ref C :: bm).contains (.type "AttributeError") = false := by rw [List.contains_cons, hA]; rfl
  have hcN : (Value.ref C :: bm).contains (.type "NameError") = false := by rw [List.contains_cons, hN]; rfl
  refine codeAny_builtinAt Fn.entry ?_
  unfold Builtin.«BaseException.__new__»
  refine PySem.wpAt_bind ?_
  show PySem.wpAt _ _ _ (stack >>= _) _ _ _
  refine PySem.wpAt_bind (PySem.wpAt_stack fun p below => PySem.wpAt_of_wpAny ?_)
  wp_walk
  refine PySem.wpAt_of_wpAny ?_
  rw [Fn.owner]
  repeat (first | with_reducible refine wpAny_madeHere_exc Fn.canon hC ?_ | with_reducible refine wpAny_loadPart_at hC ?_ | (with_reducible refine wpAny_isSubtype_exc hC ?_; first | rw [hcB] | rw [hcA] | rw [hcN]) | wp_step)
  show R _ _
  rw [Heap.size_push]
  exact hq
/-- a class of the text's own, under Exception, called: its __init__ (a def of the text's, found along its line) is run on the new object -/
theorem fx_type_call (hcE : bm.contains (.type "Exception") = true) (hA : bm.contains (.type "AttributeError") = false) (hN : bm.contains (.type "NameError") = false) {rest : List Value} {fI : Addr} {oI : Obj} {Q : Fin → Shared → Prop}
    (hC : h.get? C = some (excClassObj nm q C N bs bm hdct sn sub ab col dd k0 k1 k2 k3 k5 "Exception.__new__"))
    (hi : ∀ h', (∀ b o, h.get? b = some o → h'.get? b = some o) → Looks (model prog w) h' (typeLookup (.ref C) (Str.ofString "__init__")) (some (.ref fI)))
    (hfI : h.get? fI = some oI) (hfc : oI.cls = .type "function")
    (hq : wpAny (model prog w) A (call (.ref fI) (.ref (h.objs.size + 1) :: rest)) (fun r s' => r = .none ∧ Q (.done (.ret (.ref (h.objs.size + 1)))) s') E ⟨(h.push { cls := .type "tuple", data := .seq rest.toArray }).push
      { cls := .ref C, data := .fields #[.ref h.objs.size, .none, .none, .none, .bool false, .none] }, g, d, t, os⟩) (hrest : rest.length ≤ sizeLine) :
    wpAny (model prog w) A (Builtin.«type.__call__» ⟨.ref C :: rest, []⟩) Q E ⟨h, g, d, t, os⟩ := by
  have F := PySem.F.excBase_Exception
  repeat (first | with_reducible refine wpAny_loadPart_at hC ?_ | with_reducible refine wpAny_madeBy_exc hC ?_ | wp_step)
  refine codeAny_call_builtin_code (Code.quiet_builtin _ F.quiet) (fx_check_new hcE hC ?_)
  refine fx_new hcE hA hN hC ?_ hrest
  show wpAny _ _ _ _ _ _
  have hk : ∀ b o, h.get? b = some o → ((h.push { cls := .type "tuple", data := .seq rest.toArray }).push { cls := .ref C, data := .fields #[.ref h.objs.size, .none, .none, .none, .bool false, .none] }).get? b = some o := fun b o e => Heap.get?_push_of_some _ (Heap.get?_push_of_some _ e)
  have hC₁ := hk _ _ hC
  have hfI₁ := hk _ _ hfI
  have hget : ((h.push { cls := .type "tuple", data := .seq rest.toArray }).push
      { cls := .ref C, data := .fields #[.ref h.objs.size, .none, .none, .none, .bool false, .none] }).get? (h.objs.size + 1) = some
      { cls := .ref C, data := .fields #[.ref h.objs.size, .none, .none, .none, .bool false, .none] } := by heap_get
  have hcC : (Value.ref C :: bm).contains (.ref C) = true := by simp
  unfold isInstance
  repeat (first | with_reducible refine wpAny_loadPart_at hget ?_ | (with_reducible refine wpAny_isSubtype_exc hC₁ ?_; rw [hcC]) | wp_step)
  show wpAny _ _ (typeLookup (.ref C) _) _ _ _
  refine (hi _ hk).here ?_
  refine wpAny_holding (wpAny_bind ?_)
  unfold bindSpecial
  refine wpAny_bind (wpAny_typeOf (T := "function") ⟨_, hfI₁, hfc⟩ ?_)
  rw [if_pos (by decide)]
  refine wpAny_pure (wpAny_bind (wpAny_mono hq (fun r s' hr => ?_) fun _ _ x => x))
  obtain ⟨rfl, hQ⟩ := hr
  wp_walk
  exact hQ
theorem fx_call (hcE : bm.contains (.type "Exception") = true) (hA : bm.contains (.type "AttributeError") = false) (hN : bm.contains (.type "NameError") = false) {rest : List Value} {fI : Addr} {oI : Obj} {Q : Value → Shared → Prop}
    (hC : h.get? C = some (excClassObj nm q C N bs bm hdct sn sub ab col dd k0 k1 k2 k3 k5 "Exception.__new__"))
    (hi : ∀ h', (∀ b o, h.get? b = some o → h'.get? b = some o) → Looks (model prog w) h' (typeLookup (.ref C) (Str.ofString "__init__")) (some (.ref fI)))
    (hfI : h.get? fI = some oI) (hfc : oI.cls = .type "function")
    (hq : wpAny (model prog w) (A.under (.builtin "type.__call__" ⟨.ref C :: rest, []⟩)) (call (.ref fI) (.ref (h.objs.size + 1) :: rest)) (fun r s' => r = .none ∧ Q (.ref (h.objs.size + 1)) s') E ⟨(h.push { cls := .type "tuple", data := .seq rest.toArray }).push
      { cls := .ref C, data := .fields #[.ref h.objs.size, .none, .none, .none, .bool false, .none] }, g, d, t, os⟩) (hrest : rest.length ≤ sizeLine) :
    wpAny (model prog w) A (call (.ref C) rest) Q E ⟨h, g, d, t, os⟩ := by
  have f1 := tc_lookup
  have f2 := tc_bind (.ref C)
  have hT : (⟨h, g, d, t, os⟩ : Shared).TypeIs (.ref C) "type" := ⟨_, hC, rfl⟩
  refine wpAny_call (codeAny_of_tree ?_)
  show wpAny _ _ (callAny (.ref C) _) _ _ _
  repeat (any_goals (first | assumption | with_reducible refine wpAny_loadPart_at hC ?_ | wp_step))
  refine ⟨rfl, ?_⟩
  refine codeAny_call_builtin_at (Code.quiet_builtin _ (by decide +kernel)) entry_typeCall (wpAny_check_type_call_sub hC (fx_type_call hcE hA hN hC hi hfI hfc ?_ hrest))
  exact hq
end
section
open PySem PySem.Builtin PySem.Builtin.ObjectAttr
variable {prog : Program} {w : World} {A : Around} {E : Value → Shared → Prop} {R : Result → Shared → Prop} {s : Shared} {K : Frag} {x C L : Addr} {h₀ : Heap} {m : Str → Option Value} {news : List (Addr × Obj)} {ox : Obj} {es : List DictEntry} {n : Nat} {name : Str} {v : Value}
theorem fx_osa {od : Option Obj} {tk : Tok} {cd : ClassData} (X : K.In s.heap) (I : InstAt s.heap x ox C od) (hc : clsIn K C = some cd) (hp : ∀ self, refuseLoop self (Str.ofString "__setattr__") cd.mro = pure ()) (ho : cd.mro.contains (.type "object") = true) (ht : takerIn K C name = some none)
    (h : ∀ b, wpAny (model prog w) A.in1 (storeInOwnDict (.ref x) (.ref C) (.str name tk) name v b)
      (fun fin s' => match fin with | .done f => R (.ok f) s' | .again c' => c'.quiet = true ∧ codeAny (model prog w) A c' R s') (fun e s' => R (.error e) s') s) :
    codeAny (model prog w) A (.call (.builtin "object.__setattr__") ⟨[.ref x, .str name tk, v], []⟩) R s := by
  have SF := PySem.F.store_object
  have ne : cd.mro.isEmpty = false := by cases q : cd.mro with | nil => rw [q] at ho; cases ho | cons _ _ => rfl
  have sub : Looks (model prog w) s.heap (isInstance (.ref x) (.type "object")) true := I.type.andThen (looks_mroIn X (by unfold mroIn; rw [hc, Option.bind_some, if_neg (by rw [ne]; decide), ho]))
  refine codeAny_call_builtin SF.slot.plain SF.entry (@check_slot (model prog w) _ _ s "object.__setattr__" "object" "__setattr__" (.ref x) [.str name tk, v] [] _ SF.kind SF.split sub (SF.args (.ref x) (.str name tk) v) ?_)
  obtain ⟨attr, ha, hr⟩ := Option.bind_eq_some_iff.mp ht
  have hm : Looks (model prog w) s.heap (mroOf (.ref C)) cd.mro := (looks_clsIn X hc).andThen .now
  have L3 : Looks (model prog w) s.heap (storeTaker? attr) none := by
    cases attr with
    | none => exact .now
    | some a =>
      obtain ⟨b, hb, hb'⟩ := Option.map_eq_some_iff.mp hr
      refine (looks_takesIn X hb).andThen ?_
      cases b with
      | true => cases hb'
      | false => exact .now
  rw [osa_eq, refuse_eq]
  refine wpAny_bind (wpAny_bind (I.type.here (wpAny_bind (hm.here ?_))))
  rw [hp]
  refine wpAny_pure (wpAny_bind (I.type.here (wpAny_bind ((looks_findIn X ha).here (wpAny_bind (L3.here ?_))))))
  exact h _
theorem fx_sid {d : Addr} {tk : Tok} {Q : Fin → Shared → Prop} {A : Around} (D : s.heap.get? d = some (dictOf es n)) (hl : (es.any (·.refKey)) = false) (hz : (putL name (PyData.keyHash w.params name) (.str name s.toks) v es).length ≤ 1000)
    (h : Q (.done (.ret .none)) { s with heap := s.heap.update d (Obj.putName name (PyData.keyHash w.params name) (.str name s.toks) v), toks := s.toks + 1 }) :
    wpAny (model prog w) A (storeInDict d (.str name tk) name v) Q E s := by
  have D' := Heap.get?_update_self (Obj.putName name (PyData.keyHash w.params name) (.str name s.toks) v) D (by rw [putName_dict]; rfl)
  rw [putName_dict] at D'
  refine wpAny_bind (wpAny_pure (wpAny_bind ?_))
  unfold nsSet
  refine wpAny_bind (wpAny_bind (wpAny_askSetting (wpAny_pure (wpAny_bind (wpAny_mkText (wpAny_bind (wpAny_loadPart D ?_)))))))
  dsimp only
  have c : (!es.toArray.any (·.key.isStr name) && es.toArray.any (·.refKey)) = false := by
    rw [← Array.any_toList (p := fun e : DictEntry => e.refKey), List.toList_toArray, hl, Bool.and_false]
  rw [aRefKeyMayBeTheName_at, c]
  refine wpAny_updatePart D ?_
  refine wpAny_bind (wpAny_lookBehind D' (pastItsLine_dict (by rw [List.size_toArray, sizeLine_eq]; omega)) ?_)
  exact wpAny_pure h
end
section
open PySem
variable {prog : Program} {w : World} {M : Model} {A : Around} {E : Value → Shared → Prop} {h : Heap} {g : Array GenState} {d : Drawn} {t : Nat} {os : OsState}
variable {nm q : Str} {C N : Addr} {bs bm : List Value} {hdct : Bool} {sn : List Str} {sub : List Value} {ab : Bool} {col : Option Bool} {dd : Option Addr} {k0 k1 k2 k3 k5 : Option Value} {newId : String}
theorem fx_check_init (hcE : bm.contains (.type "Exception") = true) {e : Addr} {oe : Obj} {rest : List Value} {Q : Unit → Shared → Prop}
    (hC : h.get? C = some (excClassObj nm q C N bs bm hdct sn sub ab col dd k0 k1 k2 k3 k5 newId)) (he : h.get? e = some oe) (hcls : oe.cls = .ref C) (hq : Q () ⟨h, g, d, t, os⟩) :
    wpAny M A (checkBuiltinCall "Exception.__init__" ⟨.ref e :: rest, []⟩) Q E ⟨h, g, d, t, os⟩ := by
  have F := PySem.F.excBase_Exception
  have hcB : (Value.ref C :: bm).contains (.type "Exception") = true := by rw [List.contains_cons, hcE, Bool.or_true]
  have hshort := F.noStar
  simp only [checkBuiltinCall, F.initKind, F.initSplit, F.initRow]
  repeat (first | (with_reducible refine wpAny_loadPart_at he ?_; rw [hcls]) | with_reducible refine wpAny_loadPart_at hC ?_ | (with_reducible refine wpAny_isSubtype_exc hC ?_; rw [hcB]) | wp_step)
  refine wpAny_onRaise ?_
  rw [show ∀ (a b : String) (n : Nat), Bind.check ⟨.positional, "*", "Exception", .self, [⟨"args", .varPos, false⟩]⟩ a b n (List.map (fun x => x.fst) ({ pos := Value.ref e :: rest } : Args).kw) = pure () from
    fun a b n => check_star_args _ _ _ _ _ _]
  exact wpAny_pure hq
theorem fx_init_call (hcE : bm.contains (.type "Exception") = true) {e : Addr} {t0 : Addr} {xs : List Value} {od : Option Addr} {rest : List Value} {Q : Value → Shared → Prop}
    (hC : h.get? C = some (excClassObj nm q C N bs bm hdct sn sub ab col dd k0 k1 k2 k3 k5 newId)) (he : h.get? e = some { cls := .ref C, dict := od, data := .fields #[.ref t0, .none, .none, .none, .bool false, .none] })
    (ht : h.get? t0 = some { cls := .type "tuple", data := .seq xs.toArray })
    (hq : Q .none ⟨(h.push { cls := .type "tuple", data := .seq rest.toArray }).update e (Obj.mapFields (·.setIfInBounds 0 (.ref h.objs.size))), g, d, t, os⟩) (hrest : rest.length ≤ sizeLine) :
    wpAny (model prog w) A (call (.builtin "Exception.__init__") (.ref e :: rest)) Q E ⟨h, g, d, t, os⟩ := by
  have F := PySem.F.excBase_Exception
  refine wpAny_call (codeAny_call_builtin F.init.plain F.initEntry (fx_check_init hcE hC he rfl ?_))
  have he₁ := Heap.get?_push_of_some { cls := .type "tuple", data := .seq rest.toArray } he
  have ht₁ := Heap.get?_push_of_some { cls := .type "tuple", data := .seq rest.toArray } ht
  unfold Builtin.«BaseException.__init__»
  wp_walk
  exact hq
end

abbrev cls53 : Obj := excClassObj (Str.ofString "SizeFault") (Str.ofString "SizeFault") 53 52 [.ref 40] [.ref 40, .type "Exception", .type "BaseException", .type "object"] true [] [] false none none (some (.ref 44)) none (some (.str (Str.ofString "SizeFault") 229)) (some (.str (Str.ofString "SizeFault") 237)) (some (.bool true)) "Exception.__new__"
theorem look53 (P : Params) : (hd.heap_39 P).lookup 53 = some cls53 := rfl
abbrev excO (od : Option Addr) (t : Addr) : Obj := { cls := .ref 53, dict := od, data := .fields #[.ref t, .none, .none, .none, .bool false, .none] }
abbrev tupO (xs : List Value) : Obj := { cls := .type "tuple", data := .seq xs.toArray }
section
open PySem PySem.Builtin PySem.Builtin.ObjectAttr
variable {w : World} {A : Around} {E : Value → Shared → Prop} {s : Shared} {x L t : Addr} {h₀ : Heap} {m : Str → Option Value} {news : List (Addr × Obj)}
theorem k_init {t0 : Addr} {xs rest : List Value} {Q : Value → Shared → Prop} (F : Fr h₀ L s.heap m) (X : (hd.heap_39 w.params).In h₀) (N : News h₀ L s.heap ((x, excO none t0) :: (t0, tupO xs) :: news)) (hne : ∀ p ∈ news, p.1 ≠ x)
    (h : ∀ t' h', Fr h₀ L h' m → News h₀ L h' ((x, excO none t') :: (t', tupO rest) :: news) → x < t' → (∀ p ∈ news, p.1 < t') → Q .none { s with heap := h' }) (hrest : rest.length ≤ sizeLine) :
    wpAny (model PR w) A (call (.builtin "Exception.__init__") (.ref x :: rest)) Q E s := by
  obtain ⟨hp, g, d, tk, os⟩ := s
  have hx := (N _ (.head _)).1
  have ht := (N _ (.tail _ (.head _))).1
  have hC := (X.keeps F.keep) _ _ (look53 w.params)
  have hlt : x < hp.objs.size := Heap.lt_size hx
  have N1 : News h₀ L hp ((x, excO none t0) :: news) := fun p hp => (List.mem_cons.mp hp).elim (fun e => e ▸ N _ (.head _)) fun q => N p (.tail _ (.tail _ q))
  have N2 := N1.push F (tupO rest)
  have N3 : News h₀ L (hp.push (tupO rest)) ([(hp.objs.size, tupO rest)] ++ (x, excO none t0) :: news) := N2
  obtain ⟨U1, U2⟩ := news_upd (f := Obj.mapFields (·.setIfInBounds 0 (.ref hp.objs.size))) (F.push (tupO rest)) N3 (fun p hp' => by rw [List.mem_singleton.mp hp']; exact Nat.ne_of_gt hlt) hne (o' := excO none hp.objs.size) (by rfl) rfl
  refine fx_init_call (by decide) hC hx ht ?_ hrest
  refine h hp.objs.size _ U1 (fun p hp' => ?_) hlt (fun p hp' => Heap.lt_size (N p (.tail _ (.tail _ hp'))).1)
  rcases List.mem_cons.mp hp' with rfl | hp'
  · exact U2 _ (List.mem_append_right _ (.head _))
  · rcases List.mem_cons.mp hp' with rfl | hp'
    · exact U2 _ (List.mem_append_left _ (.head _))
    · exact U2 _ (List.mem_append_right _ (.tail _ hp'))
theorem pass53 (self : Value) : refuseLoop self (Str.ofString "__setattr__") [.ref 53, .ref 40, .type "Exception", .type "BaseException", .type "object"] = pure () := by
  rw [refuseLoop_ref, refuseLoop_ref]
  exact PySem.F.store_Exception.passes self
/-- the first store into an exception of the text's own: its dict is made -/
theorem k_set0 {name : Str} {v : Value} {Q : Unit → Shared → Prop} (F : Fr h₀ L s.heap m) (X₀ : (hd.heap_39 w.params).In h₀) (N : News h₀ L s.heap ((x, excO none t) :: news)) (hne : ∀ p ∈ news, p.1 ≠ x)
    (hs : findIn (hd.heap_39 w.params) (.ref 53) (Str.ofString "__setattr__") = some (some (.builtin "object.__setattr__"))) (hc : clsIn (hd.heap_39 w.params) 53 = some { name := Str.ofString "SizeFault", bases := [.ref 40], mro := [.ref 53, .ref 40, .type "Exception", .type "BaseException", .type "object"], ns := 52, qualname := Str.ofString "SizeFault", hasDict := true, slotNames := [], subclasses := [], abstract := false, collection := none, hasDel := false })
    (ht : takerIn (hd.heap_39 w.params) 53 name = some none)
    (h : ∀ d h' es, Fr h₀ L h' m → News h₀ L h' ((x, excO (some d) t) :: (d, dictOf es 1) :: news) → es.length ≤ 1 → (es.any (·.refKey)) = false → x < d → (∀ p ∈ news, p.1 < d) → Q () { s with heap := h', toks := s.toks + 2 }) :
    wpAny (model PR w) A (setAttr (.ref x) name v) Q E s := by
  have X := X₀.keeps F.keep
  have hx := (N _ (.head _)).1
  have hlt : x < s.heap.objs.size := Heap.lt_size hx
  have I : InstAt s.heap x (excO none t) 53 none := ⟨hx, rfl, rfl, trivial⟩
  refine set_plain X I hs (fx_osa (s := { s with toks := s.toks + 1 }) X I hc (fun self => pass53 self) (by decide) ht fun b => ?_)
  refine wpAny_bind (wpAny_pure (wpAny_bind (wpAny_bind (wpAny_loadPart hx (wpAny_bind (looks_clsIn X hc _ _ _ _ (fun _ _ e => e) ?_))))))
  refine wpAny_bind (wpAny_alloc ?_)
  have N3 : News h₀ L (s.heap.push (dictOf [] 0)) ([(s.heap.objs.size, dictOf [] 0)] ++ (x, excO none t) :: news) := N.push F (dictOf [] 0)
  obtain ⟨U1, U2⟩ := news_upd (f := fun o => { cls := o.cls, dict := some s.heap.objs.size, data := o.data, slots := o.slots }) (F.push (dictOf [] 0)) N3 (fun p hp' => by rw [List.mem_singleton.mp hp']; exact Nat.ne_of_gt hlt) hne (o' := excO (some s.heap.objs.size) t) (by rfl) rfl
  refine wpAny_bind (wpAny_update (N3 _ (List.mem_append_right _ (.head _))).1 ?_)
  refine wpAny_pure ?_
  have D := (U2 _ (List.mem_append_left _ (.head _))).1
  refine fx_sid D (by rfl) (by simp [putL]) ?_
  have U2' : News h₀ L ((s.heap.push (dictOf [] 0)).update x fun o => { cls := o.cls, dict := some s.heap.objs.size, data := o.data, slots := o.slots }) ([] ++ (s.heap.objs.size, dictOf [] 0) :: (x, excO (some s.heap.objs.size) t) :: news) := U2
  obtain ⟨V1, V2⟩ := news_upd (f := Obj.putName name (PyData.keyHash w.params name) (.str name (s.toks + 1)) v) U1 U2' (fun p hp' => nomatch hp') (fun p hp' => by
    rcases List.mem_cons.mp hp' with rfl | hp'
    · exact Nat.ne_of_lt hlt
    · exact Nat.ne_of_lt (Heap.lt_size (N p (.tail _ hp')).1)) (putName_dict _ _ _ _ _ _) (by rfl)
  refine h s.heap.objs.size _ (putL name (PyData.keyHash w.params name) (.str name (s.toks + 1)) v []) V1 (fun p hp' => V2 p ?_) (by simp [putL]) (by simp [putL, DictEntry.refKey]) hlt (fun p hp' => Heap.lt_size (N p (.tail _ hp')).1)
  rcases List.mem_cons.mp hp' with rfl | hp'
  · exact .tail _ (.head _)
  · rcases List.mem_cons.mp hp' with rfl | hp'
    · exact .head _
    · exact .tail _ (.tail _ hp')
theorem putL_len (name : Str) (hsh : Int) (key v : Value) : ∀ es : List DictEntry, (putL name hsh key v es).length ≤ es.length + 1
  | [] => by simp [putL]
  | e :: r => by
    rw [putL]
    split
    · simp
    · have := putL_len name hsh key v r
      simp only [List.length_cons]
      omega
/-- a later store -/
theorem k_set1 {name : Str} {v : Value} {d : Addr} {es : List DictEntry} {n : Nat} {Q : Unit → Shared → Prop} (F : Fr h₀ L s.heap m) (X₀ : (hd.heap_39 w.params).In h₀) (N : News h₀ L s.heap ((x, excO (some d) t) :: (d, dictOf es n) :: news)) (hxd : x < d) (hne : ∀ p ∈ news, p.1 ≠ d) (hl : es.length ≤ 10) (hr : (es.any (·.refKey)) = false)
    (hs : findIn (hd.heap_39 w.params) (.ref 53) (Str.ofString "__setattr__") = some (some (.builtin "object.__setattr__"))) (hc : clsIn (hd.heap_39 w.params) 53 = some { name := Str.ofString "SizeFault", bases := [.ref 40], mro := [.ref 53, .ref 40, .type "Exception", .type "BaseException", .type "object"], ns := 52, qualname := Str.ofString "SizeFault", hasDict := true, slotNames := [], subclasses := [], abstract := false, collection := none, hasDel := false })
    (ht : takerIn (hd.heap_39 w.params) 53 name = some none)
    (h : ∀ h', Fr h₀ L h' m → News h₀ L h' ((x, excO (some d) t) :: news) → Q () { s with heap := h', toks := s.toks + 2 }) :
    wpAny (model PR w) A (setAttr (.ref x) name v) Q E s := by
  have X := X₀.keeps F.keep
  have hx := (N _ (.head _)).1
  have D := (N _ (.tail _ (.head _))).1
  have I : InstAt s.heap x (excO (some d) t) 53 (some (dictOf es n)) := ⟨hx, rfl, rfl, D⟩
  refine set_plain X I hs (fx_osa (s := { s with toks := s.toks + 1 }) X I hc (fun self => pass53 self) (by decide) ht fun b => ?_)
  refine wpAny_bind (wpAny_pure (wpAny_bind (wpAny_bind (wpAny_loadPart hx (wpAny_bind (looks_clsIn X hc _ _ _ _ (fun _ _ e => e) ?_))))))
  refine wpAny_pure (a := some d) ?_
  have hlen := putL_len name (PyData.keyHash w.params name) (.str name (s.toks + 1)) v es
  refine fx_sid D hr (by dsimp only; omega) ?_
  have N' : News h₀ L s.heap ([(x, excO (some d) t)] ++ (d, dictOf es n) :: news) := N
  obtain ⟨V1, V2⟩ := news_upd (f := Obj.putName name (PyData.keyHash w.params name) (.str name (s.toks + 1)) v) F N' (fun p hp' => by rw [List.mem_singleton.mp hp']; exact Nat.ne_of_lt hxd) hne (putName_dict _ _ _ _ _ _) (by rfl)
  refine h _ V1 (fun p hp' => V2 p ?_)
  rcases List.mem_cons.mp hp' with rfl | hp'
  · exact .head _
  · exact .tail _ (.tail _ hp')
end
theorem ne_of_lts {news : List (Addr × Obj)} {d : Addr} (h : ∀ p ∈ news, p.1 < d) : ∀ p ∈ news, p.1 ≠ d := fun p hp => Nat.ne_of_lt (h p hp)
theorem type_exc : typeOf (.type "Exception") = pure (.type "type") := by kernel_rfl
local macro_rules | `(tactic| walk_at "getMethod type:Exception") => `(tactic| (k_here; k_dflt (refine' method_type ?F ?X ?m ?st ?e ?h ?_; (case F => k_asm); (case X => k_asm); (case m => exact type_exc); (case st => decide +kernel); (case e => k_is); (case h => k_handed))))
local macro_rules | `(tactic| walk_at "call builtin:Exception.__init__") => `(tactic| (k_here; k_dflt (refine' k_init ?F ?X ?N ?ne ?_ ?sz; (case F => k_asm); (case X => k_asm); (case N => assumption); (case ne => k_extra "mine ne"); (case sz => size_fits); intro t' h' F' N' l1 l2)))
local macro_rules | `(tactic| walk_at "setAttr ref") => `(tactic| (k_here; k_dflt (refine' k_set0 ?F ?X ?N ?ne ?s ?c ?t ?_; (case F => k_asm); (case X => k_asm); (case N => assumption); (case ne => k_extra "mine ne"); (case s => k_is); (case c => k_is); (case t => k_is); intro d' h' es' F' N' l1 l2 l3 l4)))
local macro_rules | `(tactic| walk_at "setAttr ref") => `(tactic| (k_here; k_dflt (refine' k_set1 ?F ?X ?N ?xd ?ne ?l ?r ?s ?c ?t ?_; (case F => k_asm); (case X => k_asm); (case N => assumption); (case xd => assumption); (case ne => (refine ne_of_lts ?_; assumption)); (case l => omega); (case r => assumption); (case s => k_is); (case c => k_is); (case t => k_is); intro h' F' N')))
section
variable {w : World} {p : Program} {loose : List Str} {mean : ExcName → Option Value} {mg mb : Str → Option Value} {dp un : Nat} {gd : Option (List Code)} {cn : Str} {cs : Scope} {a : Addr} {ccd : Value} {cl : List (Str × Addr)} {outer : List Env} {A₀ : Around} {base h₀ : Heap} {L : Addr} {m : Str → Option Value} {news : List (Addr × Obj)} {s : Shared} {Q E : Value → Shared → Prop}
set_option maxRecDepth 100000 in
set_option maxHeartbeats 8000000 in
theorem c_init {A : Around} {x t0 : Addr} {v : Str} {tk : Tok} (B : Below A₀ base outer h₀) (hA : A.frames = some (envX cn cs L a ccd cl :: outer)) (hroom : A.depth < recursionLimit) (F : Fr h₀ L s.heap m) (X : (hd.heap_39 w.params).In h₀) (N : News h₀ L s.heap ((x, excO none t0) :: (t0, tupO [.str v tk]) :: news)) (T : Top p loose mean mg mb h₀) (hk : cs.kind = .function)
    (hne : ∀ p ∈ news, p.1 < x)
    (hret : ∀ t' d h' tk', Fr h₀ L h' m → News h₀ L h' ((x, excO (some d) t') :: (t', tupO [.str v tk]) :: news) → (∀ p ∈ news, p.1 < t') → Q .none { s with heap := h', toks := tk' }) :
    wpAny (model PR w) A (call (.ref 30) [.ref x, .str v tk]) Q E s := by
  walk_at "mine fill"
  k_with "mine ne" => (intro p hp; first | exact Nat.ne_of_lt (hne p hp) | (rcases List.mem_cons.mp hp with rfl | hp; exact Nat.ne_of_gt (by assumption); exact Nat.ne_of_lt (hne p hp)))
  refine wpAny_call ?_
  k_dflt (refine' code_def ?k1 ?k2 ?k3 ?k4 ?k5 ?kA ?kF ?kK ?k6 ?k7 ?k8 ?k9 ?kB ?_ ?c2 ?c3 ?c4 ?c5; (case kA => exact hA); (case kF => exact rfl); (case kK => assumption); (case k1 => k_asm); (case k2 => k_asm); (case k3 => k_asm); (case k4 => k_asm); (case k5 => k_asm); (case k6 => k_is); (case k7 => k_is); (case k8 => assumption); (case k9 => first | exact BindsTo.of_eq rfl | exact binds_K (by k_in) rfl (by k_is) rfl rfl rfl); (case c5 => decide); (case kB => exact locs rfl); (case c2 => exact rfl); (case c3 => exact rfl); (case c4 => exact rfl); k_whole; intro g' L' h' FG' F' N' B' X' T'; (try dsimp only); (try k_lift B'); (try k_fold))
  k_steps
  exact hret _ _ _ _ (by k_asm) (by assumption) (by assumption)
end

section
open PySem
variable {w : World} {p : Program} {loose : List Str} {mean : ExcName → Option Value} {mg mb : Str → Option Value} {dp un : Nat} {gd : Option (List Code)} {cn : Str} {cs : Scope} {a : Addr} {ccd : Value} {cl : List (Str × Addr)} {outer : List Env} {A₀ : Around} {base h₀ : Heap} {L : Addr} {m : Str → Option Value} {news : List (Addr × Obj)} {s : Shared} {Q E : Value → Shared → Prop}
theorem c_fault {v : Str} {tk : Tok} (B : Below A₀ base outer h₀) (F : Fr h₀ L s.heap m) (X : (hd.heap_39 w.params).In h₀) (N : News h₀ L s.heap news) (T : Top p loose mean mg mb h₀) (hk : cs.kind = .function) (hdp : dp + 3 < recursionLimit) (hun : un + 24 < cLine)
    (hret : ∀ e t d h' tk', Fr h₀ L h' m → News h₀ L h' ((e, excO (some d) t) :: (t, tupO [.str v tk]) :: news) → (∀ p ∈ news, p.1 < e ∧ p.1 < t) → Q (.ref e) { s with heap := h', toks := tk' }) :
    wpAny (model PR w) (ktrTop dp un gd cn cs L a ccd cl outer) (call (.ref 53) [.str v tk]) Q E s := by
  walk_at "mine fill"
  obtain ⟨hp, g, d, t, os⟩ := s
  have X' := X.keeps F.keep
  have hC := X' _ _ (look53 w.params)
  have hfind : findIn (hd.heap_39 w.params) (.ref 53) (Str.ofString "__init__") = some (some (.ref 30)) := by k_is
  obtain ⟨oI, h30, hfc⟩ : ∃ o, (hd.heap_39 w.params).lookup 30 = some o ∧ o.cls = .type "function" := ⟨_, rfl, rfl⟩
  have N1 := N.push F (tupO [.str v tk])
  have N2 := N1.push (F.push (tupO [.str v tk])) (excO none hp.objs.size)
  rw [Heap.size_push] at N2
  have lt : ∀ p ∈ news, p.1 < hp.objs.size := fun p hp' => Heap.lt_size (N p hp').1
  refine fx_call (by decide) (by decide) (by decide) hC (fun h' k => (looks_findIn X' hfind).keeps k) (X' _ _ h30) hfc ?_ (by size_fits)
  refine c_init (s := ⟨(hp.push (tupO [.str v tk])).push (excO none hp.objs.size), g, d, t, os⟩) B rfl (by show dp + 1 < recursionLimit; omega) ((F.push _).push _) X N2 T hk (fun p hp' => Nat.lt_succ_of_lt (lt p hp')) ?_
  exact fun t' d' h' tk' F' N' l' => ⟨rfl, hret _ t' d' h' tk' F' N' fun p hp' => ⟨Nat.lt_succ_of_lt (lt p hp'), l' p hp'⟩⟩
end
section
open PySem
variable {prog : Program} {w : World} {A : Around} {E : Value → Shared → Prop} {s : Shared} {env : Env}
def RaisableF (E : Value → Shared → Prop) (v : Value) (s₁ : Shared) : Prop :=
  ∃ e t d, v = .ref e ∧ s₁.heap.get? 53 = some cls53 ∧ s₁.heap.get? e = some (excO (some d) t) ∧ E (.ref e) s₁
theorem Raise_own {e : PySem.Expr} {pos : Pos} {Q : Flow → Shared → Prop} (hh : A.handled = none)
    (h : wpAny (model prog w) A (eval e env) (RaisableF E) E s) : wpAny (model prog w) A (exec (.Raise (some e) none pos) env) Q E s := by
  show wpAny (model prog w) A (do standAt pos; raiseStmt env (some (do let v ← eval e env; standAt pos; pure v)) none) Q E s
  refine wpAny_bind (wpAny_standAt ?_)
  unfold raiseStmt
  dsimp only
  refine wpAny_bind (wpAny_bind (wpAny_mono h (fun v s₁ h₁ => wpAny_bind (wpAny_standAt (wpAny_pure ?_))) fun _ _ x => x))
  obtain ⟨e, t, d, rfl, hC, he, hE⟩ := h₁
  obtain ⟨hp, g, dr, tk, os⟩ := s₁
  have hcB : (Value.ref 53 :: [Value.ref 40, .type "Exception", .type "BaseException", .type "object"]).contains (.type "BaseException") = true := by decide
  repeat (first | with_reducible refine wpAny_loadPart_at he ?_ | with_reducible refine wpAny_loadPart_at hC ?_ | (with_reducible refine wpAny_isSubtype_exc hC ?_; rw [hcB]) | wp_step)
  exact wpAny_raiseNew_none hh hE
end
section
open PySem
variable {M : Model} {A : Around} {E : Value → Shared → Prop} {s' : Shared} {base g : Heap} {outer : List Env} {L a e t d : Addr} {m : Str → Option Value} {name : Str} {scope : Scope} {cd : Value} {Q : Unit → Shared → Prop} {news : List (Addr × Obj)} {vs : List Value}
theorem leave_raiseX (K : Below A base outer g) (F : Fr g L s'.heap m) (N : News g L s'.heap ((e, excO (some d) t) :: (t, tupO vs) :: news)) (hne : ∀ q ∈ news, q.1 < e ∧ q.1 < t)
    (hQ : ∀ h', RaisedS base g outer e (.ref 53) t vs news h' → g.UpToSlots h' → Q () { s' with heap := h' }) (hk : scope.kind = .function := by rfl) :
    wpAny M (A.deeper (envOf name scope L a cd)) (leaving (envOf name scope L a cd) (.ref e)) Q E s' := by
  have K' := K.push (name := name) (a := a) (cd := cd) F hk
  have Ne := N _ (.head _)
  have Nt := N _ (.tail _ (.head _))
  have hin : ∀ env ∈ (envOf name scope L a cd :: outer), ∀ b, env.frame = some b → b ∈ e :: t :: (envOf name scope L a cd :: outer).filterMap (·.frame) := fun env he b hb => .tail _ (.tail _ (List.mem_filterMap.mpr ⟨env, he, hb⟩))
  have be := fresh_of_stays K.stays Ne.2.2
  have bt := fresh_of_stays K.stays Nt.2.2
  have st : base.StaysIn (hideAll s'.heap (e :: t :: (envOf name scope L a cd :: outer).filterMap (·.frame))) := fun b o q => hideAll_get _ (K'.stays b o q) fun hm => by
    rcases List.mem_cons.mp hm with z | hm
    · rw [z, be] at q; cases q
    · rcases List.mem_cons.mp hm with z | hm
      · rw [z, bt] at q; cases q
      · rw [(K'.frames.mem hm).1] at q; cases q
  have sg : ∀ b o, g.get? b = some o → b ∉ outer.filterMap (·.frame) → (hideAll s'.heap (e :: t :: (envOf name scope L a cd :: outer).filterMap (·.frame))).get? b = some o := fun b o q nm => hideAll_get _ (F.keep b o q) fun hm => by
    rcases List.mem_cons.mp hm with z | hm
    · rw [z, Ne.2.2] at q; cases q
    · rcases List.mem_cons.mp hm with z | hm
      · rw [z, Nt.2.2] at q; cases q
      · rcases kts_mem hm with z | z
        · rw [z, kts_self F] at q; cases q
        · exact nm z
  have hl : ∀ q ∈ news, (hideAll s'.heap (e :: t :: (envOf name scope L a cd :: outer).filterMap (·.frame))).get? q.1 = some q.2 ∧ g.get? q.1 = none ∧ base.get? q.1 = none := fun q hq => by
    have Nq := N q (.tail _ (.tail _ hq))
    refine ⟨hideAll_get _ Nq.1 fun hm => ?_, Nq.2.2, fresh_of_stays K.stays Nq.2.2⟩
    rcases List.mem_cons.mp hm with z | hm
    · exact Nat.ne_of_lt (hne q hq).1 z
    · rcases List.mem_cons.mp hm with z | hm
      · exact Nat.ne_of_lt (hne q hq).2 z
      · obtain ⟨env, he, hf⟩ := List.mem_filterMap.mp hm
        rcases List.mem_cons.mp he with rfl | he
        · exact Nq.2.1 (Option.some.inj hf).symm
        · obtain ⟨o, ho, _⟩ := (K.frames.mem (List.mem_filterMap.mpr ⟨env, he, hf⟩)).2
          rw [Nq.2.2] at ho; cases ho
  refine wpAny_leaving_firstW (a0 := .ref t) K'.stack (funFrames_hide K'.frames hin) rfl Ne.1 (fun b o q => of_hideAll _ q) (hideAll_none _ (.head _)) rfl rfl rfl fun h' hL => ?_
  obtain ⟨k1, ⟨_, _, k2⟩, k3, k4⟩ := hL
  exact hQ h' ⟨⟨_, st, sg, hl, ⟨k1, hideAll_none _ (.head _), k2, k3⟩, hideAll_none _ (.tail _ (.head _))⟩, Heap.TupAt.of_slots ⟨_, _, Nt.1, rfl, rfl⟩ k4⟩ ((Heap.UpToSlots.of_keeps F.keep).trans k4)
end

local macro_rules | `(tactic| walk_at "call ref") => `(tactic| (k_here; k_dflt (refine' c_fault ?k1 ?k2 ?k3 ?k4 ?k5 ?kK ?kd ?ku  ?_; (walk_at "mine call"); intro e' t' d' h' tk' F' N' l'; (walk_at "mine tidy"))))
local macro_rules | `(tactic| walk_at "exec Raise some none") => `(tactic| (k_here; k_dflt (refine' Raise_own ?hh ?_; (case hh => rfl)); (try k_fold)))
theorem News.head_at {h₀ h : Heap} {L e : Addr} {o : Obj} {news : List (Addr × Obj)} (N : News h₀ L h ((e, o) :: news)) : h.get? e = some o := (N _ (.head _)).1
abbrev FRet (h₀ : Heap) (L : Addr) (m : Str → Option Value) (base : Heap) (l : List Env) (news : List (Addr × Obj)) (s : Shared) (E : Value → Shared → Prop) : Prop :=
  ∀ (e t : Addr) (vs : List Value) (G h' : Heap) (tk' : Nat), Fr h₀ L G m → RaisedS base G l e (.ref 53) t vs news h' → G.UpToSlots h' → E (.ref e) { s with heap := h', toks := tk' }
section
variable {w : World} {p : Program} {loose : List Str} {mean : ExcName → Option Value} {mg mb : Str → Option Value} {dp un : Nat} {gd : Option (List Code)} {cn : Str} {cs : Scope} {a : Addr} {ccd : Value} {cl : List (Str × Addr)} {outer : List Env} {A₀ : Around} {base h₀ : Heap} {L : Addr} {m : Str → Option Value} {news : List (Addr × Obj)} {s : Shared} {Q E : Value → Shared → Prop}
set_option maxRecDepth 100000 in
set_option maxHeartbeats 8000000 in
theorem c_quot0 {x y : Addr} {a0 a1 b0 b1 : Int} {t1 t2 t3 t4 : Tok}
    (B : Below A₀ base outer h₀) (F : Fr h₀ L s.heap m) (X : (hd.heap_39 w.params).In h₀) (N : News h₀ L s.heap news) (T : Top p loose mean mg mb h₀) (hk : cs.kind = .function) (hdp : dp + 8 < recursionLimit) (hun : un + 80 < cLine)
    (hx : (x, tup2 a0 a1 t1 t2) ∈ news) (hy : (y, tup2 b0 b1 t3 t4) ∈ news) (hz : b0 = 0) (hret : FRet h₀ L m base (envX cn cs L a ccd cl :: outer) news s E) :
    wpAny (model PR w) (ktrTop dp un gd cn cs L a ccd cl outer) (call (.ref 113) [.ref x, .ref y]) Q E s := by
  walk_at "mine fill"
  subst hz
  refine wpAny_call ?_
  k_dflt (walk_at "mine enter")
  k_steps
  refine ⟨_, _, _, rfl, Frag.In.keeps (by assumption) (Fr.keep (by assumption)) _ _ (look53 _), (News.head_at (by assumption)), ?_⟩
  k_unfold
  refine leave_raiseX (by assumption) (by assumption) (by assumption) (by assumption) ?_
  exact fun h' R U => hret _ _ _ _ _ _ (by assumption) R U
end

local macro_rules | `(tactic| walk_at "ite") => `(tactic| (k_extra "mine ite"))
section
variable {w : World} {p : Program} {loose : List Str} {mean : ExcName → Option Value} {mg mb : Str → Option Value} {dp un : Nat} {gd : Option (List Code)} {cn : Str} {cs : Scope} {a : Addr} {ccd : Value} {cl : List (Str × Addr)} {outer : List Env} {A₀ : Around} {base h₀ : Heap} {L : Addr} {m : Str → Option Value} {news : List (Addr × Obj)} {s : Shared} {Q E : Value → Shared → Prop}
set_option maxRecDepth 100000 in
set_option maxHeartbeats 8000000 in
theorem c_power0 {x y : Addr} {a0 a1 b0 b1 : Int} {t1 t2 t3 t4 : Tok}
    (B : Below A₀ base outer h₀) (F : Fr h₀ L s.heap m) (X : (hd.heap_39 w.params).In h₀) (N : News h₀ L s.heap news) (T : Top p loose mean mg mb h₀) (hk : cs.kind = .function) (hdp : dp + 8 < recursionLimit) (hun : un + 80 < cLine)
    (hx : (x, tup2 a0 a1 t1 t2) ∈ news) (hy : (y, tup2 b0 b1 t3 t4) ∈ news) (hz : b1 ≠ 0 ∨ 99 < b0.natAbs ∨ (a0 = 0 ∧ b0 < 1)) (hret : FRet h₀ L m base (envX cn cs L a ccd cl :: outer) news s E) :
    wpAny (model PR w) (ktrTop dp un gd cn cs L a ccd cl outer) (call (.ref 120) [.ref x, .ref y]) Q E s := by
  walk_at "mine fill"
  k_with "mine ite" => (exfalso; omega)
  refine wpAny_call ?_
  k_dflt (walk_at "mine enter")
  k_steps
  all_goals
    refine ⟨_, _, _, rfl, Frag.In.keeps (by assumption) (Fr.keep (by assumption)) _ _ (look53 _), (News.head_at (by assumption)), ?_⟩
    k_unfold
    refine leave_raiseX (by assumption) (by assumption) (by assumption) (by assumption) ?_
    exact fun h' R U => hret _ _ _ _ _ _ (by assumption) R U
end

def dueV (sg : Str) (a0 a1 b0 b1 : Int) : Option (Int × Int) :=
  if sg = Str.ofString "+" then some (norm (a0 * 10 ^ b1.toNat + b0 * 10 ^ a1.toNat) (a1 + b1))
  else if sg = Str.ofString "-" then some (norm (a0 * 10 ^ b1.toNat - b0 * 10 ^ a1.toNat) (a1 + b1))
  else if sg = Str.ofString "*" then some (norm (a0 * b0) (a1 + b1))
  else if sg = Str.ofString "/" then (if b0 = 0 then none else some (norm (lawq (a0 * 10 ^ b1.toNat) (b0 * 10 ^ a1.toNat)) 30))
  else if b1 > 0 ∨ b0.natAbs > 99 ∨ (a0 = 0 ∧ b0 < 1) then none else some (powv a0 a1 b0)
structure GoodP (sg : Str) (a0 a1 b0 b1 : Int) : Prop where
  sign : sg = Str.ofString "+" ∨ sg = Str.ofString "-" ∨ sg = Str.ofString "*" ∨ sg = Str.ofString "/" ∨ sg = Str.ofString "**"
  ga : a0.natAbs < 1000
  ha : 0 ≤ a1
  ha' : a1 ≤ 3
  gb : b0.natAbs < 1000
  hb : 0 ≤ b1
  hb' : b1 ≤ 3
  pow : sg = Str.ofString "**" → b1 = 0 → b0.natAbs ≤ 99 → ¬ (a0 = 0 ∧ b0 < 1) → a1 * (b0.natAbs : Int) ≤ 30 ∧ (∀ k : Nat, k ≤ b0.natAbs → Lt 100 (a0 ^ k)) ∧ (b0 < 0 → a1 * (b0.natAbs : Int) ≤ 15)
theorem dueV_add (a0 a1 b0 b1 : Int) : dueV (Str.ofString "+") a0 a1 b0 b1 = some (norm (a0 * 10 ^ b1.toNat + b0 * 10 ^ a1.toNat) (a1 + b1)) := by unfold dueV; rw [if_pos rfl]
theorem dueV_sub (a0 a1 b0 b1 : Int) : dueV (Str.ofString "-") a0 a1 b0 b1 = some (norm (a0 * 10 ^ b1.toNat - b0 * 10 ^ a1.toNat) (a1 + b1)) := by unfold dueV; rw [if_neg (by decide), if_pos rfl]
theorem dueV_mul (a0 a1 b0 b1 : Int) : dueV (Str.ofString "*") a0 a1 b0 b1 = some (norm (a0 * b0) (a1 + b1)) := by unfold dueV; rw [if_neg (by decide), if_neg (by decide), if_pos rfl]
theorem dueV_div (a0 a1 b0 b1 : Int) : dueV (Str.ofString "/") a0 a1 b0 b1 = (if b0 = 0 then none else some (norm (lawq (a0 * 10 ^ b1.toNat) (b0 * 10 ^ a1.toNat)) 30)) := by unfold dueV; rw [if_neg (by decide), if_neg (by decide), if_neg (by decide), if_pos rfl]
theorem dueV_pow (a0 a1 b0 b1 : Int) : dueV (Str.ofString "**") a0 a1 b0 b1 = (if b1 > 0 ∨ b0.natAbs > 99 ∨ (a0 = 0 ∧ b0 < 1) then none else some (powv a0 a1 b0)) := by unfold dueV; rw [if_neg (by decide), if_neg (by decide), if_neg (by decide), if_neg (by decide)]
theorem Lt.small {x : Int} {n : Nat} (h : x.natAbs < 1000) (hn : 3 ≤ n) : Lt n x := Nat.lt_of_lt_of_le h (Nat.pow_le_pow_right (by decide) hn : 10 ^ 3 ≤ 10 ^ n)
theorem Lt.mul {x y : Int} {n : Nat} (h : x.natAbs < 1000) (h' : y.natAbs < 1000) (hn : 6 ≤ n) : Lt n (x * y) := by
  unfold Lt
  rw [Int.natAbs_mul]
  exact Nat.lt_of_lt_of_le (Nat.mul_lt_mul'' h h') (Nat.pow_le_pow_right (by decide) hn : 10 ^ 6 ≤ 10 ^ n)
local macro_rules | `(tactic| walk_at "call ref") => `(tactic| (k_here; k_dflt (refine' c_quot0 ?k1 ?k2 ?k3 ?k4 ?k5 ?kK ?kd ?ku ?p1 ?p2 ?p3 ?_; (walk_at "mine call"); (case p1 => walk_at "mine pre"); (case p2 => walk_at "mine pre"); (case p3 => walk_at "mine pre"); intro e' t' vs' G' h' tk' FG' R' U'; (walk_at "mine tidy"))))
local macro_rules | `(tactic| walk_at "call ref") => `(tactic| (k_here; k_dflt (refine' c_power ?k1 ?k2 ?k3 ?k4 ?k5 ?kK ?kd ?ku ?p1 ?p2 ?p3 ?p4 ?p5 ?p6 ?p7 ?p8 ?_; (walk_at "mine call"); (case p1 => walk_at "mine pre"); (case p2 => walk_at "mine pre"); (case p3 => walk_at "mine pre"); (case p4 => walk_at "mine pre"); (case p5 => walk_at "mine pre"); (case p6 => walk_at "mine pre"); (case p7 => walk_at "mine pre"); (case p8 => walk_at "mine pre"); intro D' t1' t2' h' tk' F' N' l'; (try simp only [AllLt, and_true] at l'); (walk_at "mine tidy"))))
local macro_rules | `(tactic| walk_at "call ref") => `(tactic| (k_here; k_dflt (refine' c_power0 ?k1 ?k2 ?k3 ?k4 ?k5 ?kK ?kd ?ku ?p1 ?p2 ?p3 ?_; (walk_at "mine call"); (case p1 => walk_at "mine pre"); (case p2 => walk_at "mine pre"); (case p3 => walk_at "mine pre"); intro e' t' vs' G' h' tk' FG' R' U'; (walk_at "mine tidy"))))
section
variable {w : World} {p : Program} {loose : List Str} {mean : ExcName → Option Value} {mg mb : Str → Option Value} {dp un : Nat} {gd : Option (List Code)} {cn : Str} {cs : Scope} {a : Addr} {ccd : Value} {cl : List (Str × Addr)} {outer : List Env} {A₀ : Around} {base h₀ : Heap} {L : Addr} {m : Str → Option Value} {news : List (Addr × Obj)} {s : Shared} {Q E : Value → Shared → Prop}
set_option maxRecDepth 100000 in
set_option maxHeartbeats 8000000 in
theorem c_calc {sg : Str} {x y : Addr} {a0 a1 b0 b1 : Int} {t0 t1 t2 t3 t4 : Tok} {r : Int × Int}
    (B : Below A₀ base outer h₀) (F : Fr h₀ L s.heap m) (X : (hd.heap_39 w.params).In h₀) (N : News h₀ L s.heap news) (T : Top p loose mean mg mb h₀) (hk : cs.kind = .function) (hdp : dp + 30 < recursionLimit) (hun : un + 300 < cLine)
    (hx : (x, tup2 a0 a1 t1 t2) ∈ news) (hy : (y, tup2 b0 b1 t3 t4) ∈ news) (hg : GoodP sg a0 a1 b0 b1) (hr : dueV sg a0 a1 b0 b1 = some r) (hret : PRet h₀ L m news s Q r) :
    wpAny (model PR w) (ktrTop dp un gd cn cs L a ccd cl outer) (call (.ref 134) [.str sg t0, .ref x, .ref y]) Q E s := by
  walk_at "mine fill"
  obtain ⟨hs, ga, ha, ha', gb, hb, hb', hp⟩ := hg
  have f1 : Lt 150 b0 := Lt.small gb (by decide)
  have f2 : Lt 120 (a0 * b0) := Lt.mul ga gb (by decide)
  rcases hs with rfl | rfl | rfl | rfl | rfl
  · rw [dueV_add] at hr
    cases hr
    clear hp
    refine wpAny_call ?_
    k_dflt (walk_at "mine enter")
    k_steps
    exact p_end hret (by k_asm) (by assumption) (by k_mem) (by walk_at "mine sub") (by walk_at "mine lt") rfl
  · rw [dueV_sub] at hr
    cases hr
    clear hp
    refine wpAny_call ?_
    k_dflt (walk_at "mine enter")
    k_steps
    exact p_end hret (by k_asm) (by assumption) (by k_mem) (by walk_at "mine sub") (by walk_at "mine lt") rfl
  · rw [dueV_mul] at hr
    cases hr
    clear hp
    refine wpAny_call ?_
    k_dflt (walk_at "mine enter")
    k_steps
    exact p_end hret (by k_asm) (by assumption) (by k_mem) (by walk_at "mine sub") (by walk_at "mine lt") rfl
  · rw [dueV_div] at hr
    split at hr
    · cases hr
    · rename_i hz
      cases hr
      clear hp
      rw [← quot_eq hb hz] at hret
      refine wpAny_call ?_
      k_dflt (walk_at "mine enter")
      k_steps
      exact p_end hret (by k_asm) (by assumption) (by k_mem) (by walk_at "mine sub") (by walk_at "mine lt") rfl
  · rw [dueV_pow] at hr
    split at hr
    · cases hr
    · rename_i hz
      cases hr
      obtain rfl : b1 = 0 := by omega
      obtain ⟨q1, q2, _⟩ := hp rfl rfl (by omega) (by omega)
      clear hp
      refine wpAny_call ?_
      k_dflt (walk_at "mine enter")
      k_steps
      exact p_end hret (by k_asm) (by assumption) (by k_mem) (by walk_at "mine sub") (by walk_at "mine lt") rfl
end

local macro_rules | `(tactic| walk_at "call ref") => `(tactic| (k_here; k_dflt (refine' c_calc ?k1 ?k2 ?k3 ?k4 ?k5 ?kK ?kd ?ku ?p1 ?p2 ?p3 ?p4 ?_; (walk_at "mine call"); (case p1 => walk_at "mine pre"); (case p2 => walk_at "mine pre"); (case p3 => walk_at "mine pre"); (case p4 => walk_at "mine pre"); intro D' t1' t2' h' tk' F' N' l'; (try simp only [AllLt, and_true] at l'); (walk_at "mine tidy"))))
local macro_rules | `(tactic| walk_at "leaving ref") => `(tactic| (k_here; k_dflt (refine' leave_onS ?K ?F ?R ?U ?_; (case R => assumption); (case F => assumption); (case K => assumption); (case U => assumption)); intro h' R' RK' U'))
section
variable {w : World} {p : Program} {loose : List Str} {mean : ExcName → Option Value} {mg mb : Str → Option Value} {dp un : Nat} {gd : Option (List Code)} {cn : Str} {cs : Scope} {a : Addr} {ccd : Value} {cl : List (Str × Addr)} {outer : List Env} {A₀ : Around} {base h₀ : Heap} {L : Addr} {m : Str → Option Value} {news : List (Addr × Obj)} {s : Shared} {Q E : Value → Shared → Prop}
set_option maxRecDepth 100000 in
set_option maxHeartbeats 8000000 in
theorem c_calc0 {sg : Str} {x y : Addr} {a0 a1 b0 b1 : Int} {t0 t1 t2 t3 t4 : Tok}
    (B : Below A₀ base outer h₀) (F : Fr h₀ L s.heap m) (X : (hd.heap_39 w.params).In h₀) (N : News h₀ L s.heap news) (T : Top p loose mean mg mb h₀) (hk : cs.kind = .function) (hdp : dp + 30 < recursionLimit) (hun : un + 300 < cLine)
    (hx : (x, tup2 a0 a1 t1 t2) ∈ news) (hy : (y, tup2 b0 b1 t3 t4) ∈ news) (hg : GoodP sg a0 a1 b0 b1) (hr : dueV sg a0 a1 b0 b1 = none) (hret : FRet h₀ L m base (envX cn cs L a ccd cl :: outer) news s E) :
    wpAny (model PR w) (ktrTop dp un gd cn cs L a ccd cl outer) (call (.ref 134) [.str sg t0, .ref x, .ref y]) Q E s := by
  walk_at "mine fill"
  obtain ⟨hs, ga, ha, ha', gb, hb, hb', hp⟩ := hg
  clear hp
  rcases hs with rfl | rfl | rfl | rfl | rfl
  · rw [dueV_add] at hr; cases hr
  · rw [dueV_sub] at hr; cases hr
  · rw [dueV_mul] at hr; cases hr
  · rw [dueV_div] at hr
    split at hr
    · rename_i hz
      refine wpAny_call ?_
      k_dflt (walk_at "mine enter")
      k_steps
      exact hret _ _ _ _ _ _ (by assumption) (by assumption) (by assumption)
    · cases hr
  · rw [dueV_pow] at hr
    split at hr
    · rename_i hz
      have hz' : b1 ≠ 0 ∨ 99 < b0.natAbs ∨ (a0 = 0 ∧ b0 < 1) := by omega
      refine wpAny_call ?_
      k_dflt (walk_at "mine enter")
      k_steps
      exact hret _ _ _ _ _ _ (by assumption) (by assumption) (by assumption)
    · cases hr
end

local macro_rules | `(tactic| walk_at "call ref") => `(tactic| (k_here; k_dflt (refine' c_calc0 ?k1 ?k2 ?k3 ?k4 ?k5 ?kK ?kd ?ku ?p1 ?p2 ?p3 ?p4 ?_; (walk_at "mine call"); (case p1 => walk_at "mine pre"); (case p2 => walk_at "mine pre"); (case p3 => walk_at "mine pre"); (case p4 => walk_at "mine pre"); intro e' t' vs' G' h' tk' FG' R' U'; (walk_at "mine tidy"))))
abbrev NRet (h₀ : Heap) (L : Addr) (m : Str → Option Value) (news : List (Addr × Obj)) (s : Shared) (Q : Value → Shared → Prop) : Prop :=
  ∀ (h' : Heap) (tk' : Nat), Fr h₀ L h' m → News h₀ L h' news → Q .none { s with heap := h', toks := tk' }
theorem n_end {h₀ h' : Heap} {L : Addr} {m : Str → Option Value} {news news' : List (Addr × Obj)} {s : Shared} {Q : Value → Shared → Prop} {tk' : Nat} (hret : NRet h₀ L m news s Q) (F : Fr h₀ L h' m) (N : News h₀ L h' news') (hn : ∀ p ∈ news, p ∈ news') : Q .none { s with heap := h', toks := tk' } :=
  hret h' tk' F fun p hp => N p (hn p hp)
theorem natAbs18 {x k : Int} {c : Nat} (h : x.natAbs < 1000) (hk : k ≤ c) (hc : c ≤ 15) : (x * 10 ^ k.toNat).natAbs < 10 ^ 18 := by
  rw [Int.natAbs_mul, Int.natAbs_pow]
  exact Nat.lt_of_lt_of_le (Nat.mul_lt_mul_of_lt_of_le h (Nat.pow_le_pow_right (by decide) (by omega : k.toNat ≤ 15)) (Nat.pow_pos (by decide))) (by decide)
theorem pow18 {k : Int} (hk : k ≤ 15) : ((10 : Int) ^ k.toNat).natAbs < 10 ^ 18 := by
  rw [Int.natAbs_pow]
  exact Nat.lt_of_le_of_lt (Nat.pow_le_pow_right (by decide) (by omega : k.toNat ≤ 15)) (by decide)
theorem Lt.up {n k : Nat} {x : Int} (h : Lt n x) (hk : n ≤ k) : Lt k x := Nat.lt_of_lt_of_le h (Nat.pow_le_pow_right (by decide) hk)
section
variable {w : World} {p : Program} {loose : List Str} {mean : ExcName → Option Value} {mg mb : Str → Option Value} {dp un : Nat} {gd : Option (List Code)} {cn : Str} {cs : Scope} {a : Addr} {ccd : Value} {cl : List (Str × Addr)} {outer : List Env} {A₀ : Around} {base h₀ : Heap} {L : Addr} {m : Str → Option Value} {news : List (Addr × Obj)} {s : Shared} {Q E : Value → Shared → Prop}
set_option maxRecDepth 100000 in
set_option maxHeartbeats 8000000 in
theorem c_due {sg : Str} {x y : Addr} {a0 a1 b0 b1 : Int} {t0 t1 t2 t3 t4 : Tok} {r : Int × Int}
    (B : Below A₀ base outer h₀) (F : Fr h₀ L s.heap m) (X : (hd.heap_39 w.params).In h₀) (N : News h₀ L s.heap news) (T : Top p loose mean mg mb h₀) (hk : cs.kind = .function) (hdp : dp + 30 < recursionLimit) (hun : un + 300 < cLine)
    (hx : (x, tup2 a0 a1 t1 t2) ∈ news) (hy : (y, tup2 b0 b1 t3 t4) ∈ news) (hg : GoodP sg a0 a1 b0 b1) (hr : dueV sg a0 a1 b0 b1 = some r) (hret : PRet h₀ L m news s Q r) :
    wpAny (model PR w) (ktrTop dp un gd cn cs L a ccd cl outer) (call (.ref 162) [.str sg t0, .ref x, .ref y]) Q E s := by
  walk_at "mine fill"
  obtain ⟨hs, ga, ha, ha', gb, hb, hb', hp⟩ := hg
  rcases hs with rfl | rfl | rfl | rfl | rfl
  · rw [dueV_add] at hr
    cases hr
    clear hp
    refine wpAny_call ?_
    k_dflt (walk_at "mine enter")
    k_steps
    exact p_end hret (by k_asm) (by assumption) (by k_mem) (by walk_at "mine sub") (by walk_at "mine lt") rfl
  · rw [dueV_sub] at hr
    cases hr
    clear hp
    refine wpAny_call ?_
    k_dflt (walk_at "mine enter")
    k_steps
    exact p_end hret (by k_asm) (by assumption) (by k_mem) (by walk_at "mine sub") (by walk_at "mine lt") rfl
  · rw [dueV_mul] at hr
    cases hr
    clear hp
    refine wpAny_call ?_
    k_dflt (walk_at "mine enter")
    k_steps
    exact p_end hret (by k_asm) (by assumption) (by k_mem) (by walk_at "mine sub") (by walk_at "mine lt") rfl
  · rw [dueV_div] at hr
    split at hr
    · cases hr
    · rename_i hz
      cases hr
      clear hp
      have q1 : b0 * 10 ^ a1.toNat ≠ 0 := mul_pow_nz hz
      have q2 : Lt 200 (b0 * 10 ^ a1.toNat) := (natAbs_mul_pow_lt (c := 3) (Lt.small gb (by decide : 3 ≤ 10)) ha').up (by decide)
      have q3 : (a0 * 10 ^ b1.toNat).natAbs < 10 ^ 18 := natAbs18 (c := 3) ga hb' (by decide)
      k_with "mine ite" => (exfalso; omega)
      refine wpAny_call ?_
      k_dflt (walk_at "mine enter")
      k_steps
      all_goals first | (exfalso; exact absurd (by assumption) hz) | exact p_end hret (by k_asm) (by assumption) (by k_mem) (by walk_at "mine sub") (by walk_at "mine lt") rfl
  · rw [dueV_pow] at hr
    split at hr
    · cases hr
    · rename_i hz
      cases hr
      obtain rfl : b1 = 0 := by omega
      obtain ⟨q1, q2, q3⟩ := hp rfl rfl (by omega) (by omega)
      clear hp
      by_cases hn : b0 < 0
      · have q4 : a1 * (b0.natAbs : Int) = a1 * -b0 := by rw [show (b0.natAbs : Int) = -b0 by omega]
        have q5 : 0 ≤ a1 * -b0 := Int.mul_nonneg ha (by omega)
        have q6 : a1 * -b0 ≤ 1000000 := by have := q3 hn; omega
        have q7 : ((10 : Int) ^ (a1 * -b0).toNat).natAbs < 10 ^ 18 := pow18 (by have := q3 hn; omega)
        have q8 : a0 ^ (-b0).toNat ≠ 0 := Int.pow_ne_zero (by omega)
        have q9 : Lt 200 (a0 ^ (-b0).toNat) := (q2 _ (by omega)).up (by decide)
        clear q2 q3 q4 q1
        k_with "mine ite" => (exfalso; omega)
        refine wpAny_call ?_
        k_dflt (walk_at "mine enter")
        k_steps
        all_goals exact p_end hret (by k_asm) (by assumption) (by k_mem) (by walk_at "mine sub") (by walk_at "mine lt") (by rw [powv, if_pos hn])
      · have q5 : 0 ≤ a1 * b0 := Int.mul_nonneg ha (by omega)
        clear q2 q3 q1
        k_with "mine ite" => (exfalso; omega)
        refine wpAny_call ?_
        k_dflt (walk_at "mine enter")
        k_steps
        all_goals exact p_end hret (by k_asm) (by assumption) (by k_mem) (by walk_at "mine sub") (by walk_at "mine lt") (by rw [powv, if_neg hn])
set_option maxRecDepth 100000 in
set_option maxHeartbeats 8000000 in
theorem c_due0 {sg : Str} {x y : Addr} {a0 a1 b0 b1 : Int} {t0 t1 t2 t3 t4 : Tok}
    (B : Below A₀ base outer h₀) (F : Fr h₀ L s.heap m) (X : (hd.heap_39 w.params).In h₀) (N : News h₀ L s.heap news) (T : Top p loose mean mg mb h₀) (hk : cs.kind = .function) (hdp : dp + 30 < recursionLimit) (hun : un + 300 < cLine)
    (hx : (x, tup2 a0 a1 t1 t2) ∈ news) (hy : (y, tup2 b0 b1 t3 t4) ∈ news) (hg : GoodP sg a0 a1 b0 b1) (hr : dueV sg a0 a1 b0 b1 = none) (hret : NRet h₀ L m news s Q) :
    wpAny (model PR w) (ktrTop dp un gd cn cs L a ccd cl outer) (call (.ref 162) [.str sg t0, .ref x, .ref y]) Q E s := by
  walk_at "mine fill"
  obtain ⟨hs, ga, ha, ha', gb, hb, hb', hp⟩ := hg
  clear hp
  rcases hs with rfl | rfl | rfl | rfl | rfl
  · rw [dueV_add] at hr; cases hr
  · rw [dueV_sub] at hr; cases hr
  · rw [dueV_mul] at hr; cases hr
  · rw [dueV_div] at hr
    split at hr
    · rename_i hz
      subst hz
      refine wpAny_call ?_
      k_dflt (walk_at "mine enter")
      k_steps

      all_goals exact n_end hret (by k_asm) (by assumption) (by walk_at "mine sub")
    · cases hr
  · rw [dueV_pow] at hr
    split at hr
    · rename_i hz
      k_with "mine ite" => (exfalso; omega)
      refine wpAny_call ?_
      k_dflt (walk_at "mine enter")
      k_steps

      all_goals exact n_end hret (by k_asm) (by assumption) (by walk_at "mine sub")
    · cases hr
end

local macro_rules | `(tactic| walk_at "call ref") => `(tactic| (k_here; k_dflt (refine' c_due ?k1 ?k2 ?k3 ?k4 ?k5 ?kK ?kd ?ku ?p1 ?p2 ?p3 ?p4 ?_; (walk_at "mine call"); (case p1 => walk_at "mine pre"); (case p2 => walk_at "mine pre"); (case p3 => walk_at "mine pre"); (case p4 => walk_at "mine pre"); intro D' t1' t2' h' tk' F' N' l'; (try simp only [AllLt, and_true] at l'); (walk_at "mine tidy"))))
local macro_rules | `(tactic| walk_at "call ref") => `(tactic| (k_here; k_dflt (refine' c_due0 ?k1 ?k2 ?k3 ?k4 ?k5 ?kK ?kd ?ku ?p1 ?p2 ?p3 ?p4 ?_; (walk_at "mine call"); (case p1 => walk_at "mine pre"); (case p2 => walk_at "mine pre"); (case p3 => walk_at "mine pre"); (case p4 => walk_at "mine pre"); intro h' tk' F' N'; (walk_at "mine tidy"))))
section
variable {w : World} {p : Program} {loose : List Str} {mean : ExcName → Option Value} {mg mb : Str → Option Value} {dp un : Nat} {gd : Option (List Code)} {cn : Str} {cs : Scope} {a : Addr} {ccd : Value} {cl : List (Str × Addr)} {outer : List Env} {A₀ : Around} {base h₀ : Heap} {L : Addr} {m : Str → Option Value} {news : List (Addr × Obj)} {s : Shared} {Q E : Value → Shared → Prop}
set_option maxRecDepth 100000 in
set_option maxHeartbeats 8000000 in
theorem c_seen {sg : Str} {x y : Addr} {a0 a1 b0 b1 : Int} {t0 t1 t2 t3 t4 : Tok} {r : Int × Int}
    (B : Below A₀ base outer h₀) (F : Fr h₀ L s.heap m) (X : (hd.heap_39 w.params).In h₀) (N : News h₀ L s.heap news) (T : Top p loose mean mg mb h₀) (hk : cs.kind = .function) (hdp : dp + 40 < recursionLimit) (hun : un + 400 < cLine)
    (hx : (x, tup2 a0 a1 t1 t2) ∈ news) (hy : (y, tup2 b0 b1 t3 t4) ∈ news) (hg : GoodP sg a0 a1 b0 b1) (hr : dueV sg a0 a1 b0 b1 = some r) (hret : PRet h₀ L m news s Q r) :
    wpAny (model PR w) (ktrTop dp un gd cn cs L a ccd cl outer) (call (.ref 169) [.str sg t0, .ref x, .ref y]) Q E s := by
  walk_at "mine fill"
  refine wpAny_call ?_
  k_dflt (walk_at "mine enter")
  k_steps
  exact p_end hret (by k_asm) (by assumption) (by k_mem) (by walk_at "mine sub") (by walk_at "mine lt") rfl
set_option maxRecDepth 100000 in
set_option maxHeartbeats 8000000 in
theorem c_seen0 {sg : Str} {x y : Addr} {a0 a1 b0 b1 : Int} {t0 t1 t2 t3 t4 : Tok}
    (B : Below A₀ base [] h₀) (F : Fr h₀ L s.heap m) (X : (hd.heap_39 w.params).In h₀) (N : News h₀ L s.heap news) (T : Top p loose mean mg mb h₀) (hk : cs.kind = .function) (hdp : dp + 40 < recursionLimit) (hun : un + 400 < cLine)
    (XB : (hd.heap_39 w.params).In base) (TB : Top p loose mean mg mb base)
    (hx : (x, tup2 a0 a1 t1 t2) ∈ news) (hy : (y, tup2 b0 b1 t3 t4) ∈ news) (hg : GoodP sg a0 a1 b0 b1) (hr : dueV sg a0 a1 b0 b1 = none) (hret : NRet h₀ L m news s Q) :
    wpAny (model PR w) (ktrTop dp un gd cn cs L a ccd [] []) (call (.ref 169) [.str sg t0, .ref x, .ref y]) Q E s := by
  walk_at "mine fill"
  refine wpAny_call ?_
  k_dflt (refine' code_defS0 ?k1 ?k2 ?k3 ?k4 ?k5 ?kA ?k6 ?k7 ?k8 ?k9 ?kB ?_ ?cK ?c2 ?c3 ?c4 ?c5; (case kA => exact rfl); (case k2 => k_asm); (case k1 => k_asm); (case k3 => k_asm); (case k4 => k_asm); (case k5 => k_asm); (case k6 => k_is); (case k7 => k_is); (case k8 => ktr_room); (case k9 => first | exact BindsTo.of_eq rfl | exact binds_K (by k_in) rfl (by k_is) rfl rfl rfl); (case kB => exact locs rfl); (case cK => assumption); (case c2 => exact rfl); (case c3 => exact rfl); (case c4 => exact rfl); (case c5 => decide); k_whole; intro g' L' h' FG' F' N' B' X' T' D'; (try dsimp only); (try k_fold))
  k_steps
  exact n_end hret (by k_asm) (by assumption) (by walk_at "mine sub")
end


local macro_rules | `(tactic| walk_at "setItem ref int") => `(tactic| (k_here; k_dflt (refine' ki_set ?F ?N ?a ?b ?e ?U ?_; (case F => k_asm); (case N => k_asm); (case U => exact Upd.head (by assumption)); (case a => decide); (case b => decide); (case e => rfl)); intro h' F' N'; (try dsimp only [List.nil_append, List.cons_append] at N')))
theorem k_len {prog : Program} {w : World} {A : Around} {E : Value → Shared → Prop} {s : Shared} {h₀ : Heap} {L D : Addr} {news : List (Addr × Obj)} {vs : List Value} {ns : List Int} {n : Nat} {Q : Value → Shared → Prop} (N : News h₀ L s.heap news) (hm : (D, W.listOf vs.toArray n) ∈ news) (hi : IntsAre vs ns) (h1 : ns.length ≤ 40)
    (h : Q (.int ns.length (s.toks + 1)) { s with toks := s.toks + 1 + 1 }) : wpAny (model prog w) A (call (.builtin "len") [.ref D]) Q E s := by
  have e : vs.toArray.size = ns.length := by rw [List.size_toArray]; exact hi.length
  exact len_list (PySem.IsL.isList (n := n) (N _ hm).1) (by rw [e]; omega) (by rw [e]; exact h)
local macro_rules | `(tactic| walk_at "call builtin:len") => `(tactic| (k_here; k_dflt (refine' k_len ?k1 ?k2 ?k3 ?k4 ?_; (case k1 => k_asm); (case k2 => k_mem); (case k3 => assumption); (case k4 => assumption); k_whole)))
local macro_rules | `(tactic| walk_at "subscriptTail") => `(tactic| (k_here; k_dflt (refine' ksa_sub ?k1 ?k2 ?k3 ?k4 ?k5 ?k6 ?_ ?k7; (case k1 => k_asm); (case k2 => k_mem); (case k3 => assumption); (case k4 => assumption); (case k5 => assumption); (case k6 => omega); (case k7 => with_unfolding_all rfl); k_whole); intro _))
theorem News.at {h₀ h : Heap} {L : Addr} {q : Addr × Obj} {news : List (Addr × Obj)} (N : News h₀ L h news) (m : q ∈ news) : h.get? q.1 = some q.2 := (N q m).1
abbrev tapeO (c : Addr) (k : Int) (t : Tok) : Obj := W.listOf #[.ref c, .int k t] 0
abbrev DRet (h₀ : Heap) (L : Addr) (m : Str → Option Value) (tp c : Addr) (k many : Int) (news : List (Addr × Obj)) (s : Shared) (Q : Value → Shared → Prop) : Prop :=
  ∀ (r : Int) (t tk1 : Tok) (h' : Heap) (tk' : Nat), 0 ≤ r → r < many → Fr h₀ L h' m → News h₀ L h' ((tp, tapeO c (k + 1) tk1) :: news) → Q (.int r t) { s with heap := h', toks := tk' }
section
variable {w : World} {p : Program} {loose : List Str} {mean : ExcName → Option Value} {mg mb : Str → Option Value} {dp un : Nat} {gd : Option (List Code)} {cn : Str} {cs : Scope} {a : Addr} {ccd : Value} {cl : List (Str × Addr)} {outer : List Env} {A₀ : Around} {base h₀ : Heap} {L : Addr} {m : Str → Option Value} {news : List (Addr × Obj)} {s : Shared} {Q E : Value → Shared → Prop}
set_option maxRecDepth 100000 in
set_option maxHeartbeats 8000000 in
theorem c_draw {tp c : Addr} {k many : Int} {tk t1 : Tok} {vs : List Value} {ns : List Int} {n2 : Nat}
    (B : Below A₀ base outer h₀) (F : Fr h₀ L s.heap m) (X : (hd.heap_39 w.params).In h₀) (N : News h₀ L s.heap ((tp, tapeO c k tk) :: news)) (T : Top p loose mean mg mb h₀) (hk : cs.kind = .function) (hdp : dp + 6 < recursionLimit) (hun : un + 60 < cLine)
    (hc : (c, W.listOf vs.toArray n2) ∈ news) (hi : IntsAre vs ns) (h0 : 0 < ns.length) (h1 : ns.length ≤ 40) (hk0 : 0 ≤ k) (hk1 : k ≤ 1000) (hm : 0 < many) (hm' : many ≤ 10000) (hne : ∀ p ∈ news, p.1 ≠ tp)
    (hret : DRet h₀ L m tp c k many news s Q) :
    wpAny (model PR w) (ktrTop dp un gd cn cs L a ccd cl outer) (call (.ref 141) [.ref tp, .int many t1]) Q E s := by
  walk_at "mine fill"
  have hl : (ns.length : Int) ≠ 0 := by omega
  have f0 : 0 ≤ k.fmod (ns.length : Int) := Int.fmod_nonneg_of_pos k (by omega)
  have f1 : k.fmod (ns.length : Int) < (ns.length : Int) := Int.fmod_lt_of_pos k (by omega)
  refine wpAny_call ?_
  k_dflt (walk_at "mine enter")
  k_steps
  exact hret _ _ _ _ _ (Int.fmod_nonneg_of_pos _ hm) (Int.fmod_lt_of_pos _ hm) (by k_asm) (by assumption)
end

theorem normN_bounds (s : Nat) : ∀ u : Int, (normN s u).1.natAbs ≤ u.natAbs ∧ 0 ≤ (normN s u).2 ∧ (normN s u).2 ≤ (s : Int) := by
  induction s with
  | zero => intro u; simp [normN]
  | succ s ih =>
    intro u
    by_cases h : u.fmod 10 = 0
    · have e : normN (s + 1) u = normN s (u.fdiv 10) := by rw [normN, if_pos h]
      rw [e]
      obtain ⟨h1, h2, h3⟩ := ih (u.fdiv 10)
      have := Int.mul_fdiv_add_fmod u 10
      omega
    · have e : normN (s + 1) u = (u, (s : Int) + 1) := by rw [normN, if_neg h]
      rw [e]
      refine ⟨Nat.le_refl _, ?_, ?_⟩
      · show (0 : Int) ≤ (s : Int) + 1; omega
      · show (s : Int) + 1 ≤ ((s + 1 : Nat) : Int); omega
theorem norm_bounds {u s : Int} (h : 0 ≤ s) : (norm u s).1.natAbs ≤ u.natAbs ∧ 0 ≤ (norm u s).2 ∧ (norm u s).2 ≤ s := by
  obtain ⟨h1, h2, h3⟩ := normN_bounds s.toNat u
  exact ⟨h1, h2, Int.le_trans h3 (by omega)⟩
theorem News.swap {h₀ h : Heap} {L : Addr} {q r : Addr × Obj} {news : List (Addr × Obj)} (N : News h₀ L h (q :: r :: news)) : News h₀ L h (r :: q :: news) := fun p hp => N p (by
  rcases List.mem_cons.mp hp with rfl | hp
  · exact .tail _ (.head _)
  · rcases List.mem_cons.mp hp with rfl | hp
    · exact .head _
    · exact .tail _ (.tail _ hp))
theorem hne_cons {h₀ h : Heap} {L tp D : Addr} {o o' : Obj} {rest : List (Addr × Obj)} (N0 : News h₀ L h ((D, o') :: (tp, o) :: rest)) (hne : ∀ p ∈ rest, p.1 ≠ tp) (l : AllLt D ((tp, o) :: rest)) : ∀ p ∈ (D, o') :: rest, p.1 ≠ tp := fun p hp => by
  rcases List.mem_cons.mp hp with rfl | hp
  · exact Nat.ne_of_gt l.1
  · exact hne p hp
section
variable {prog : Program} {w : World} {A : Around} {E : Value → Shared → Prop} {s : Shared} {env : Env} {h₀ : Heap} {x : Str} {S : List Str} {body : List Stmt} {Q : Flow → Shared → Prop} {tp c : Addr}
/-- what a turn of the law's loop leaves: the tape further on, nothing else that anybody asks for -/
def LawEnd (h₀ : Heap) (L : Addr) (x : Str) (S : List Str) (m₀ : Str → Option Value) (tp c : Addr) (k : Int) (led : List (Addr × Obj)) (s₁ : Shared) (f : Flow) (s₂ : Shared) : Prop :=
  f = .next ∧ ∃ h' tk m' k' t1, s₂ = { s₁ with heap := h', toks := tk } ∧ Fr h₀ L h' m' ∧ News h₀ L h' ((tp, tapeO c k' t1) :: led) ∧ k ≤ k' ∧ k' ≤ k + 10 ∧ (∀ z, z ≠ x → S.contains z = false → m' z = m₀ z)
theorem law_range {r : Addr} {b₀ : Int} {t₀ u₀ v₀ : Tok} {n : Nat} {m₀ : Str → Option Value} {rest : List (Addr × Obj)} {t1 : Tok}
    (hh : A.handled = none) (hr : IsRange s.heap r 0 b₀ 1 t₀ u₀ v₀) (hb : b₀ = (n : Int)) (hn : n ≤ 50)
    (F : Fr h₀ env.locals s.heap m₀) (N : News h₀ env.locals s.heap ((tp, tapeO c 0 t1) :: rest)) (hne : ∀ p ∈ rest, p.1 ≠ tp)
    (turn : ∀ (i : Nat) k t1 t (u : Str → Option Value) h tk led, i < n → 0 ≤ k → k ≤ 10 * (i : Int) → (∀ p ∈ rest, p ∈ led) → (∀ p ∈ led, p.1 ≠ tp) →
      Fr h₀ env.locals h (fun z => if z = x then some (.int i t) else if S.contains z = true then u z else m₀ z) → News h₀ env.locals h ((tp, tapeO c k t1) :: led) →
      wpAny (model prog w) A (execs body env) (LawEnd h₀ env.locals x S m₀ tp c k led { s with heap := h, toks := tk }) E { s with heap := h, toks := tk })
    (done : ∀ k t1 (u : Str → Option Value) h tk, Fr h₀ env.locals h (fun z => if z = x then u z else if S.contains z = true then u z else m₀ z) → News h₀ env.locals h ((tp, tapeO c k t1) :: rest) → Q .next { s with heap := h, toks := tk }) :
    wpAny (model prog w) A (pyIter (.ref r)) (fun it s₂ => LoopAtV prog w A h₀ env x body Q E it s₂) E s := by
  subst hb
  have hsmall : Builtin.Range.small 0 (n : Int) 1 = true := small_one (by decide) (by decide) (by omega) (by omega)
  have hsz : Builtin.Range.rangeSize 0 (n : Int) 1 = (n : Int) := by rw [rangeSize_nat]; omega
  refine wpAny_pyIter_range hr hsmall ?_
  have W : Walks prog w A s.heap.objs.size [s.heap.objs.size] [s.heap.objs.size] n (fun i v => i < n ∧ ∃ t, v = .int (0 + i * 1) t)
      (fun i h => IsRangeIter h s.heap.objs.size (0 + (i : Nat) * 1) ((n : Int) - (i : Nat)) 1) := (Walks.range hh _ 0 1 n).bound
  refine kdr_loop (fun i m nx => ∃ k t1, nx = (tp, tapeO c k t1) :: rest ∧ 0 ≤ k ∧ k ≤ 10 * (i : Int) ∧ (∀ z, z ≠ x → S.contains z = false → m z = m₀ z)) W (fun _ h => h) (fun _ h => h) ?_ ?_ ?_ ?_ (by show IsRangeIter _ _ _ _ _; rw [hsz]; simpa using Heap.get?_push_size _ rfl) (F.push _) (fun p hp => ⟨Heap.get?_push_of_some _ (N p hp).1, (N p hp).2⟩) ⟨0, t1, rfl, Int.le_refl _, by omega, fun _ _ _ => rfl⟩ ?_ ?_
  · intro i h hi b hb
    rw [List.mem_singleton.mp hb]
    exact ⟨_, hi⟩
  · intro hm
    exact absurd F.ns.lt ((List.mem_singleton.mp hm) ▸ Nat.lt_irrefl _)
  · intro b hb
    rw [List.mem_singleton.mp hb]
    exact next_is_new F
  · intro p hp hI
    exact absurd (Heap.lt_size (N p hp).1) ((List.mem_singleton.mp hI) ▸ Nat.lt_irrefl _)
  · rintro i v m₁ nx h tk own hi ⟨_, t, rfl⟩ hoff ⟨k, t1, rfl, hk0, hk1, hz⟩ F₁ N₁
    have e1 : (0 : Int) + (i : Int) * 1 = (i : Int) := by omega
    rw [e1] at F₁
    have em : (fun z => if z = x then some (.int (i : Int) t) else m₁ z) = (fun z => if z = x then some (.int (i : Int) t) else if S.contains z = true then m₁ z else m₀ z) := by
      funext z
      by_cases h1 : z = x
      · rw [if_pos h1, if_pos h1]
      · rw [if_neg h1, if_neg h1]
        by_cases h2 : S.contains z = true
        · rw [if_pos h2]
        · rw [if_neg h2]; exact hz z h1 (by simpa using h2)
    rw [em] at F₁
    refine wpAny_mono (turn i k t1 t m₁ h tk (rest ++ own) hi hk0 hk1 (fun p hp => List.mem_append_left _ hp) (fun p hp => ?_) F₁ N₁) (fun f s₃ q => ?_) fun _ _ e => e
    · rcases List.mem_append.mp hp with hp | hp
      · exact hne p hp
      · exact hoff p hp tp (.head _)
    · obtain ⟨rfl, h', tk', m', k', t2, rfl, F', N', hk', hk'', hz'⟩ := q
      refine InvEndG.intro F' N' ⟨k', t2, rfl, by omega, by omega, hz'⟩ ?_ ?_ ?_
      · exact fun p hp b hb => hoff p hp b hb
      · intro p hp
        rcases List.mem_cons.mp hp with rfl | hp
        · exact .head _
        · exact .tail _ (List.mem_append_left _ hp)
      · exact fun p hp => .tail _ (List.mem_append_right _ hp)
  · rintro m₁ nx h tk ⟨k, t1, rfl, hk0, hk1, hz⟩ F₁ N₁
    refine done k t1 m₁ h tk ?_ N₁
    have em : m₁ = (fun z => if z = x then m₁ z else if S.contains z = true then m₁ z else m₀ z) := by
      funext z
      by_cases h1 : z = x
      · rw [if_pos h1]
      · rw [if_neg h1]
        by_cases h2 : S.contains z = true
        · rw [if_pos h2]
        · rw [if_neg h2]; exact hz z h1 (by simpa using h2)
    rw [← em]
    exact F₁
end
theorem law_end {h₀ h' : Heap} {L tp c : Addr} {x : Str} {S : List Str} {m₀ m' : Str → Option Value} {led news' : List (Addr × Obj)} {k k' : Int} {s : Shared} {t1 : Tok} {tk : Nat} (F : Fr h₀ L h' m') (N : News h₀ L h' news') (hm : (tp, tapeO c k' t1) ∈ news') (hn : ∀ p ∈ led, p ∈ news') (h1 : k ≤ k') (h2 : k' ≤ k + 10) (hz : ∀ z, z ≠ x → S.contains z = false → m' z = m₀ z) :
    LawEnd h₀ L x S m₀ tp c k led s .next { s with heap := h', toks := tk } := ⟨rfl, h', tk, m', k', t1, rfl, F, fun p hp => (List.mem_cons.mp hp).elim (fun q => q ▸ N _ hm) fun q => N p (hn p q), h1, h2, hz⟩

theorem small_pow {a0 : Int} {n k : Nat} (h : a0.natAbs < 1000) (hk : k ≤ n) (hn : n ≤ 20) : Lt 100 (a0 ^ k) := by
  unfold Lt
  rw [Int.natAbs_pow]
  refine Nat.lt_of_le_of_lt (Nat.pow_le_pow_left (Nat.le_of_lt h) k) ?_
  refine Nat.lt_of_le_of_lt (Nat.pow_le_pow_right (by decide) (Nat.le_trans hk hn) : 1000 ^ k ≤ 1000 ^ 20) ?_
  decide +kernel
theorem good_plain {sg : Str} {a0 a1 b0 b1 : Int} (hs : sg = Str.ofString "+" ∨ sg = Str.ofString "-" ∨ sg = Str.ofString "*" ∨ sg = Str.ofString "/") (ga : a0.natAbs < 1000) (ha : 0 ≤ a1) (ha' : a1 ≤ 3) (gb : b0.natAbs < 1000) (hb : 0 ≤ b1) (hb' : b1 ≤ 3) : GoodP sg a0 a1 b0 b1 where
  sign := by rcases hs with h | h | h | h <;> simp [h]
  ga := ga
  ha := ha
  ha' := ha'
  gb := gb
  hb := hb
  hb' := hb'
  pow := fun h => by rcases hs with q | q | q | q <;> (rw [q] at h; exact absurd h (by decide))
theorem good_pow {a0 a1 b0 b1 : Int} (ga : a0.natAbs < 1000) (ha : 0 ≤ a1) (ha' : a1 ≤ 3) (gb : b0.natAbs < 1000) (hb : 0 ≤ b1) (hb' : b1 ≤ 3) (h : (b0.natAbs ≤ 7 ∧ (b0 < 0 → b0.natAbs ≤ 5)) ∨ 99 < b0.natAbs ∨ b1 ≠ 0) : GoodP (Str.ofString "**") a0 a1 b0 b1 where
  sign := by simp
  ga := ga
  ha := ha
  ha' := ha'
  gb := gb
  hb := hb
  hb' := hb'
  pow := fun _ h1 h2 h3 => by
    obtain ⟨p1, p2⟩ : b0.natAbs ≤ 7 ∧ (b0 < 0 → b0.natAbs ≤ 5) := by omega
    refine ⟨?_, fun k hk => small_pow ga hk (by omega), fun hn => ?_⟩
    · have : a1 * (b0.natAbs : Int) ≤ 3 * 7 := Int.mul_le_mul ha' (by omega) (by omega) (by decide)
      omega
    · have := p2 hn
      have : a1 * (b0.natAbs : Int) ≤ 3 * 5 := Int.mul_le_mul ha' (by omega) (by omega) (by decide)
      omega
theorem good_one {a0 b0 : Int} (ga : a0 = 1 ∨ a0 = -1) (gb : b0.natAbs < 1000) : GoodP (Str.ofString "**") a0 0 b0 0 where
  sign := by simp
  ga := by omega
  ha := by decide
  ha' := by decide
  gb := gb
  hb := by decide
  hb' := by decide
  pow := fun _ h1 h2 h3 => by
    refine ⟨by omega, fun k hk => ?_, fun hn => by omega⟩
    unfold Lt
    rw [Int.natAbs_pow, show a0.natAbs = 1 by omega, Nat.one_pow]
    decide +kernel
section
variable {w : World} {p : Program} {loose : List Str} {mean : ExcName → Option Value} {mg mb : Str → Option Value} {dp un : Nat} {gd : Option (List Code)} {cn : Str} {cs : Scope} {a : Addr} {ccd : Value} {cl : List (Str × Addr)} {outer : List Env} {A₀ : Around} {base h₀ : Heap} {L : Addr} {m : Str → Option Value} {news : List (Addr × Obj)} {s : Shared} {Q E : Value → Shared → Prop}
theorem c_plainB {u s0 : Int} {t1 t2 : Tok}
    (B : Below A₀ base outer h₀) (F : Fr h₀ L s.heap m) (X : (hd.heap_39 w.params).In h₀) (N : News h₀ L s.heap news) (T : Top p loose mean mg mb h₀) (hk : cs.kind = .function) (hdp : dp + 3 < recursionLimit) (hun : un + 24 < cLine)
    (h0 : 0 ≤ s0) (hret : ∀ u' s', u'.natAbs ≤ u.natAbs → 0 ≤ s' → s' ≤ s0 → PRet h₀ L m news s Q (u', s')) :
    wpAny (model PR w) (ktrTop dp un gd cn cs L a ccd cl outer) (call (.ref 148) [.int u t1, .int s0 t2]) Q E s := by
  obtain ⟨h1, h2, h3⟩ := norm_bounds (u := u) h0
  exact c_law_plain B F X N T hk hdp hun h0 (hret _ _ h1 h2 h3)
theorem c_seenB {sg : Str} {x y : Addr} {a0 a1 b0 b1 : Int} {t0 t1 t2 t3 t4 : Tok}
    (B : Below A₀ base [] h₀) (F : Fr h₀ L s.heap m) (X : (hd.heap_39 w.params).In h₀) (N : News h₀ L s.heap news) (T : Top p loose mean mg mb h₀) (hk : cs.kind = .function) (hdp : dp + 40 < recursionLimit) (hun : un + 400 < cLine)
    (XB : (hd.heap_39 w.params).In base) (TB : Top p loose mean mg mb base)
    (hx : (x, tup2 a0 a1 t1 t2) ∈ news) (hy : (y, tup2 b0 b1 t3 t4) ∈ news) (hg : GoodP sg a0 a1 b0 b1)
    (h1 : ∀ r1 r2, GoodP sg a0 a1 b0 b1 → dueV sg a0 a1 b0 b1 = some (r1, r2) → PRet h₀ L m news s Q (r1, r2)) (h2 : GoodP sg a0 a1 b0 b1 → dueV sg a0 a1 b0 b1 = none → NRet h₀ L m news s Q) :
    wpAny (model PR w) (ktrTop dp un gd cn cs L a ccd [] []) (call (.ref 169) [.str sg t0, .ref x, .ref y]) Q E s := by
  cases hr : dueV sg a0 a1 b0 b1 with
  | none => exact c_seen0 B F X N T hk hdp hun XB TB hx hy hg hr (h2 hg hr)
  | some r => exact c_seen B F X N T hk hdp hun hx hy hg hr (h1 r.1 r.2 hg hr)
end

theorem k_newTupleB {M : Model} {A : Around} {E : Value → Shared → Prop} {s : Shared} {h₀ : Heap} {L tp c : Addr} {k : Int} {t : Tok} {m : Str → Option Value} {rest : List (Addr × Obj)} {vs : List Value} {Q : Value → Shared → Prop} (F : Fr h₀ L s.heap m) (N : News h₀ L s.heap ((tp, tapeO c k t) :: rest)) (hne : ∀ p ∈ rest, p.1 ≠ tp) (hz : vs.length ≤ sizeLine)
    (h : ∀ D h', Fr h₀ L h' m → News h₀ L h' ((tp, tapeO c k t) :: (D, ({ cls := .type "tuple", data := .seq vs.toArray } : Obj)) :: rest) → (∀ p ∈ (D, ({ cls := .type "tuple", data := .seq vs.toArray } : Obj)) :: rest, p.1 ≠ tp) → Q (.ref D) { s with heap := h' }) : wpAny M A (newTuple vs) Q E s :=
  newTuple_N F N (fun h' F' N' => h _ h' F' (News.swap N') fun p hp => by
    rcases List.mem_cons.mp hp with rfl | hp
    · exact Nat.ne_of_gt (Heap.lt_size (N _ (.head _)).1)
    · exact hne p hp) hz
local macro_rules | `(tactic| walk_at "newTuple") => `(tactic| (k_here; k_dflt (refine' k_newTupleB ?F ?N ?ne ?z ?_; (case F => k_asm); (case N => assumption); (case ne => assumption); (case z => kmk_size)); intro D' h' F' N' hne'; (try k_sweep)))
theorem ite_true_yes {a b : Prop} (h : a) : if true = true then a else b := by rw [if_pos rfl]; exact h
theorem ite_false_no {a b : Prop} (h : b) : if false = true then a else b := by rw [if_neg (by decide)]; exact h
section
variable {prog : Program} {w : World} {A : Around} {E : Value → Shared → Prop} {s : Shared} {h₀ : Heap} {L D : Addr} {news : List (Addr × Obj)} {value slice : PySem.Expr} {k : Int} {u : Tok} {Q : Value → Shared → Prop}
theorem item_any {l : List Value} (N : News h₀ L s.heap news) (hm : (D, ({ cls := .type "tuple", data := .seq l.toArray } : Obj)) ∈ news) (h0 : 0 ≤ k) (h1 : k < l.length) (hl : l.length ≤ 20) (h : ∀ v ∈ l, Q v s)
    (hs : subscripted slice false (.ref D) (.int k u) = operate [.ref D, .int k u] (getItem (.ref D) (.int k u))) :
    wpAny (model prog w) A (subscriptTail value slice (.ref D) (.int k u)) Q E s := by
  have hj : k.toNat < l.length := by omega
  exact item_tupleT (News.isTup N hm) (by omega) (by omega) (seqIndex_of h0 h1) (List.getElem?_eq_getElem hj) (h _ (List.getElem_mem hj)) hs
theorem item_signs {t0 t1 t2 t3 t4 : Tok} (N : News h₀ L s.heap news)
    (hm : (D, ({ cls := .type "tuple", data := .seq [.str (Str.ofString "+") t0, .str (Str.ofString "-") t1, .str (Str.ofString "*") t2, .str (Str.ofString "/") t3, .str (Str.ofString "**") t4].toArray } : Obj)) ∈ news) (h0 : 0 ≤ k) (h1 : k < 5)
    (ha : ∀ sg t, (sg = Str.ofString "+" ∨ sg = Str.ofString "-" ∨ sg = Str.ofString "*" ∨ sg = Str.ofString "/") → Q (.str sg t) s) (hb : ∀ t, Q (.str (Str.ofString "**") t) s)
    (hs : subscripted slice false (.ref D) (.int k u) = operate [.ref D, .int k u] (getItem (.ref D) (.int k u))) :
    wpAny (model prog w) A (subscriptTail value slice (.ref D) (.int k u)) Q E s := by
  refine item_any N hm h0 (by simpa using h1) (by simp) (fun v hv => ?_) hs
  simp only [List.mem_cons, List.not_mem_nil, or_false] at hv
  rcases hv with rfl | rfl | rfl | rfl | rfl
  · exact ha _ _ (by simp)
  · exact ha _ _ (by simp)
  · exact ha _ _ (by simp)
  · exact ha _ _ (by simp)
  · exact hb _
def TabP (b0 b1 : Int) : Prop := b0.natAbs < 1000 ∧ 0 ≤ b1 ∧ b1 ≤ 3 ∧ ((b0.natAbs ≤ 7 ∧ (b0 < 0 → b0.natAbs ≤ 5)) ∨ 99 < b0.natAbs ∨ b1 ≠ 0)
theorem eq_sign {sg : Str} {t t' : Tok} (hs : sg = Str.ofString "+" ∨ sg = Str.ofString "-" ∨ sg = Str.ofString "*" ∨ sg = Str.ofString "/") (h : Q (.bool false) s) : wpAny (model prog w) A (compareOp .Eq (.str sg t) (.str (Str.ofString "**") t')) Q E s := by
  refine eq_str ?_
  have e : (sg == Str.ofString "**") = false := by rcases hs with rfl | rfl | rfl | rfl <;> decide
  rw [e]
  exact h
theorem eq_same {x : Str} {t t' : Tok} (h : Q (.bool true) s) : wpAny (model prog w) A (compareOp .Eq (.str x t) (.str x t')) Q E s := by
  refine eq_str ?_
  rw [beq_self_eq_true]
  exact h
theorem tab_in {p : Addr} {b0 b1 : Int} {t3 t4 : Tok} (h1 : (p, tup2 b0 b1 t3 t4) ∈ news) (h2 : TabP b0 b1) : ∃ b0 b1 t3 t4, (p, tup2 b0 b1 t3 t4) ∈ news ∧ TabP b0 b1 := ⟨_, _, _, _, h1, h2⟩
theorem item_table {p0 p1 p2 p3 p4 p5 p6 p7 p8 tp c : Addr} {k₁ : Int} {t₁ : Tok} (N : News h₀ L s.heap ((tp, tapeO c k₁ t₁) :: news))
    (hm : (D, ({ cls := .type "tuple", data := .seq [.ref p0, .ref p1, .ref p2, .ref p3, .ref p4, .ref p5, .ref p6, .ref p7, .ref p8].toArray } : Obj)) ∈ news) (h0 : 0 ≤ k) (h1 : k < 9)
    (hall : ∀ p, (p = p0 ∨ p = p1 ∨ p = p2 ∨ p = p3 ∨ p = p4 ∨ p = p5 ∨ p = p6 ∨ p = p7 ∨ p = p8) → ∃ b0 b1 t3 t4, (p, tup2 b0 b1 t3 t4) ∈ news ∧ TabP b0 b1)
    (h : ∀ x b0 b1 t3 t4, (x, tup2 b0 b1 t3 t4) ∈ news → b0.natAbs < 1000 → 0 ≤ b1 → b1 ≤ 3 → ((b0.natAbs ≤ 7 ∧ (b0 < 0 → b0.natAbs ≤ 5)) ∨ 99 < b0.natAbs ∨ b1 ≠ 0) → Q (.ref x) s)
    (hs : subscripted slice false (.ref D) (.int k u) = operate [.ref D, .int k u] (getItem (.ref D) (.int k u))) :
    wpAny (model prog w) A (subscriptTail value slice (.ref D) (.int k u)) Q E s := by
  refine item_any (fun p hp => N p (.tail _ hp)) hm h0 (by simpa using h1) (by simp) (fun v hv => ?_) hs
  have hp : ∃ p, v = .ref p ∧ (p = p0 ∨ p = p1 ∨ p = p2 ∨ p = p3 ∨ p = p4 ∨ p = p5 ∨ p = p6 ∨ p = p7 ∨ p = p8) := by
    simp only [List.mem_cons, List.not_mem_nil, or_false] at hv
    rcases hv with rfl | rfl | rfl | rfl | rfl | rfl | rfl | rfl | rfl <;> exact ⟨_, rfl, by simp⟩
  obtain ⟨p, rfl, hp⟩ := hp
  obtain ⟨b0, b1, t3, t4, m1, q1, q2, q3, q4⟩ := hall p hp
  exact h _ _ _ _ _ m1 q1 q2 q3 q4
theorem tab_all {T : Addr → Prop} {p0 p1 p2 p3 p4 p5 p6 p7 p8 : Addr} (h0 : T p0) (h1 : T p1) (h2 : T p2) (h3 : T p3) (h4 : T p4) (h5 : T p5) (h6 : T p6) (h7 : T p7) (h8 : T p8) : ∀ p, (p = p0 ∨ p = p1 ∨ p = p2 ∨ p = p3 ∨ p = p4 ∨ p = p5 ∨ p = p6 ∨ p = p7 ∨ p = p8) → T p := by
  rintro p (rfl | rfl | rfl | rfl | rfl | rfl | rfl | rfl | rfl) <;> assumption
end
local macro_rules | `(tactic| walk_at "mine mem") => `(tactic| (repeat (first | exact List.Mem.head _ | refine List.Mem.tail _ ?_)))
local macro_rules | `(tactic| walk_at "mine tab") => `(tactic| (refine tab_all ?_ ?_ ?_ ?_ ?_ ?_ ?_ ?_ ?_; all_goals exact tab_in (by walk_at "mine mem") (by (unfold TabP; decide))))
local macro_rules | `(tactic| walk_at "subscriptTail") => `(tactic| (k_here; k_dflt (refine' item_signs ?k1 ?k2 ?k3 ?k4 ?_ ?_ ?hs; (case k1 => k_asm); (case k2 => k_mem); (case k3 => assumption); (case k4 => assumption); (case hs => with_unfolding_all rfl)); rotate_left; (intro tt'; (walk_at "mine tidy")); rotate_left; (intro sg' tt' hsg'; (walk_at "mine tidy"))))
local macro_rules | `(tactic| walk_at "subscriptTail") => `(tactic| (k_here; k_dflt (refine' item_table ?k1 ?k2 ?k3 ?k4 ?k5 ?_ ?hs; (case k1 => assumption); (case k2 => k_mem); (case k3 => assumption); (case k4 => assumption); (case k5 => walk_at "mine tab"); (case hs => with_unfolding_all rfl)); (intro x' b0' b1' t3' t4' hx' q1' q2' q3' q4'; (walk_at "mine tidy"))))
local macro_rules | `(tactic| walk_at "compareOp Eq str str") => `(tactic| (k_here; (with_reducible refine eq_same ?_); (try dsimp only)))
local macro_rules | `(tactic| walk_at "compareOp Eq str str") => `(tactic| (k_here; k_dflt (refine' eq_sign ?hs ?_; (case hs => assumption); (try dsimp only))))
local macro_rules | `(tactic| walk_at "ite") => `(tactic| first | with_reducible refine ite_true_yes ?_ | with_reducible refine ite_false_no ?_)

open LCg LCt in
section
variable {prog : Program} {w : World} {A : Around} {E : Value → Shared → Prop} {s : Shared} {h₀ : Heap} {L : Addr} {m : Str → Option Value} {env : Env}
/-- the test is False at each item of the tuple: nothing is kept -/
def RowsSrc (prog : Program) (w : World) (A : Around) (h₀ : Heap) (L : Addr) (m : Str → Option Value) (env : Env) (ct : PySem.Expr) (x : Str) (scope : Scope) (cl : List (Str × Addr)) (Q : Value → Shared → Prop) (xv : Value) (s₁ : Shared) : Prop :=
  ∃ ax vs news, xv = .ref ax ∧ A.handled = none ∧ Fr h₀ L s₁.heap m ∧ News h₀ L s₁.heap news ∧ (ax, ({ cls := .type "tuple", data := .seq (List.toArray vs) } : Obj)) ∈ news ∧ vs.length ≤ 100 ∧
    (∀ v ∈ vs, ∀ I oI C oC D m₂ h tk (E' : Value → Shared → Prop), NsObj oC m₂ → m₂ x = some v → Fr h₀ L h m → News h₀ L h ((I, oI) :: (C, oC) :: (D, LCg.lst []) :: news) →
      wpAny (model prog w) A (isTrue ct (compEnvC scope cl C env) (eval ct (compEnvC scope cl C env))) (fun ok s' => ok = false ∧ ∃ h' tk', s' = { s₁ with heap := h', toks := tk' } ∧ Fr h₀ L h' m ∧ News h₀ L h' ((I, oI) :: (C, oC) :: (D, LCg.lst []) :: news)) E' { s₁ with heap := h, toks := tk }) ∧
    ∀ D h tk, Fr h₀ L h m → News h₀ L h ((D, LCg.lst []) :: news) → Q (.ref D) { s₁ with heap := h, toks := tk }
theorem ListComp_rows {ct elt iter : PySem.Expr} {x : Str} {px : Pos} {scope : Scope} {cl : List (Str × Addr)} {pos : Pos} {Q : Value → Shared → Prop} (F₀ : Fr h₀ L s.heap m)
    (hclos : closureFor scope env = pure cl) (hcell : ∀ y ∈ scope.names, y.2 ≠ .cell) (hkind : scope.kind = .function)
    (hnames : ∀ y ∈ scope.names, y.2 = .local → scope.names.lookup y.1 = some .local) (hx : scope.names.lookup x = some .local)
    (h : wpAny (model prog w) A (eval iter env) (RowsSrc prog w A h₀ L m env ct x scope cl Q) E s)
    (hs : ∀ x, foldedSetIterable iter env x = pure x := by intro _; rfl) :
    wpAny (model prog w) A (eval (.ListComp elt [⟨.Name x px, iter, [ct], 0⟩] scope pos) env) Q E s := by
  rw [eval_ListComp]
  refine wpAny_comprehension_free (use := none) rfl hs hclos hkind hnames (wpAny_mono h (fun xv s₁ h₁ => ?_) fun _ _ e => e)
  obtain ⟨ax, vs, news, rfl, hh, F, N, hm, hsz, turn, done⟩ := h₁
  have hl : s₁.heap.IsTuple ax vs.toArray := ⟨_, (N _ hm).1, rfl, _, rfl⟩
  have hlt : ax < s₁.heap.objs.size := Heap.lt_size (N _ hm).1
  refine wpAny_pyIter_tuple hl ?_
  have up : ∀ b o, s₁.heap.get? b = some o → (s₁.heap.push { cls := .type "tuple_iterator", data := .fields #[.ref ax, .int 0 0] }).get? b = some o := fun b o e => Heap.get?_push_of_some _ e
  have R : ∀ k i, i + k = vs.toArray.size → ∀ g, CompRestT prog w A h₀ L m env ct elt x scope cl { s₁ with heap := g } (fun nw => ∀ p ∈ news, p ∈ nw) (fun i v => vs.toArray[i]? = some v) (fun ys nw => ys = [] ∧ nw = news) k i [] news := by
    intro k
    induction k with
    | zero => exact fun i hi g => CompRestT.zero ⟨rfl, rfl⟩
    | succ k ih =>
      intro i hi g
      refine CompRestT.succ ?_
      intro v I oI C oC D m₂ h tk E' hv hC hx' F' N' off' ne'
      have hv' : v ∈ vs := by
        have hv2 : vs[i]? = some v := by simpa using hv
        exact List.mem_of_getElem? hv2
      refine wpAny_mono (turn v hv' I oI C oC D m₂ h tk E' hC hx' F' N') (fun ok s' q => ?_) fun _ _ e => e
      obtain ⟨rfl, h', tk', rfl, F'', N''⟩ := q
      simp only [Bool.false_eq_true, if_false]
      exact ⟨h', tk', news, rfl, F'', N'', off', fun _ hp => hp, ih (i + 1) (by omega) g⟩
  refine block_T (RR := _) (Walks.tuple hh s₁.heap.objs.size ax (Nat.ne_of_lt hlt) vs.toArray) (by rw [List.size_toArray]; exact Nat.le_trans hsz (by decide)) (fun i h st => by obtain ⟨o, e, _⟩ := st.1; exact ⟨o, e⟩) ?_ hcell hkind hx ⟨⟨_, Heap.get?_push_size _ rfl, rfl, rfl⟩, hl.push _⟩ (fun b hb => ?_)
      (F.keeps up) (N.grown up) (Nat.ne_of_lt F.ns.lt) (next_is_new F) (fun p hp => Nat.ne_of_lt (Heap.lt_size (N p hp).1)) (fun _ hp => hp) (R _ _ (Nat.zero_add _) _) ?_
  · intro i h h' o nw st e e' k N' hS
    exact ⟨by obtain ⟨o', q, r⟩ := st.1; rw [e] at q; cases q; exact ⟨o, e', r⟩, ⟨_, (N' _ (hS _ hm)).1, rfl, _, rfl⟩⟩
  · show b < (s₁.heap.push _).objs.size
    rw [Heap.size_push]
    rcases List.mem_cons.mp hb with rfl | hb
    · exact Nat.lt_succ_self _
    · rw [List.mem_singleton.mp hb]; exact Nat.lt_succ_of_lt hlt
  · intro D C h tk m' ys news' F' N' o1 hn hC₀ hD₀ hCL hDL hCD offC fin
    obtain ⟨rfl, rfl⟩ := fin
    refine ⟨m', hn, fun h'' hs'' => done D h'' tk (F'.change hs'' hCL hC₀) (fun p hp => ?_)⟩
    refine ⟨hs''.extBut _ _ ?_ (N' p hp).1, (N' p hp).2⟩
    rcases List.mem_cons.mp hp with rfl | hp
    · exact Ne.symm hCD
    · exact offC p hp
end
theorem good_div {a0 a1 b0 b1 : Int} (ga : a0.natAbs < 1000) (ha : 0 ≤ a1) (ha' : a1 ≤ 3) (gb : b0.natAbs < 1000) (hb : 0 ≤ b1) (hb' : b1 ≤ 3) : GoodP (Str.ofString "/") a0 a1 b0 b1 := good_plain (.inr (.inr (.inr rfl))) ga ha ha' gb hb hb'
theorem good_sub {a0 a1 b0 b1 : Int} (ga : a0.natAbs < 1000) (ha : 0 ≤ a1) (ha' : a1 ≤ 3) (gb : b0.natAbs < 1000) (hb : 0 ≤ b1) (hb' : b1 ≤ 3) : GoodP (Str.ofString "-") a0 a1 b0 b1 := good_plain (.inr (.inl rfl)) ga ha ha' gb hb hb'
theorem good_mul {a0 a1 b0 b1 : Int} (ga : a0.natAbs < 1000) (ha : 0 ≤ a1) (ha' : a1 ≤ 3) (gb : b0.natAbs < 1000) (hb : 0 ≤ b1) (hb' : b1 ≤ 3) : GoodP (Str.ofString "*") a0 a1 b0 b1 := good_plain (.inr (.inr (.inl rfl))) ga ha ha' gb hb hb'
abbrev row3 (sg : Str) (t : Tok) (x y : Addr) : Obj := { cls := .type "tuple", data := .seq #[.str sg t, .ref x, .ref y] }
def RowOK (news : List (Addr × Obj)) (v : Value) : Prop :=
  ∃ r sg x y a0 a1 b0 b1 t0 t1 t2 t3 t4, v = .ref r ∧ (r, row3 sg t0 x y) ∈ news ∧ (x, tup2 a0 a1 t1 t2) ∈ news ∧ (y, tup2 b0 b1 t3 t4) ∈ news ∧ GoodP sg a0 a1 b0 b1
theorem row_in {news : List (Addr × Obj)} {r x y : Addr} {sg : Str} {a0 a1 b0 b1 : Int} {t0 t1 t2 t3 t4 : Tok} (h1 : (r, row3 sg t0 x y) ∈ news) (h2 : (x, tup2 a0 a1 t1 t2) ∈ news) (h3 : (y, tup2 b0 b1 t3 t4) ∈ news) (h4 : GoodP sg a0 a1 b0 b1) : RowOK news (.ref r) :=
  ⟨r, sg, x, y, a0, a1, b0, b1, t0, t1, t2, t3, t4, rfl, h1, h2, h3, h4⟩
theorem rows_nil {news : List (Addr × Obj)} : ∀ v ∈ ([] : List Value), RowOK news v := fun _ h => nomatch h
theorem rows_cons {news : List (Addr × Obj)} {v : Value} {vs : List Value} (h : RowOK news v) (t : ∀ v ∈ vs, RowOK news v) : ∀ w ∈ v :: vs, RowOK news w := List.forall_mem_cons.mpr ⟨h, t⟩
def RowEnd (h₀ : Heap) (L : Addr) (m : Str → Option Value) (all : List (Addr × Obj)) (s₁ : Shared) (ok : Bool) (s' : Shared) : Prop :=
  ok = false ∧ ∃ h' tk', s' = { s₁ with heap := h', toks := tk' } ∧ Fr h₀ L h' m ∧ News h₀ L h' all
theorem row_end {h₀ h' : Heap} {L : Addr} {m : Str → Option Value} {all all' : List (Addr × Obj)} {s₁ : Shared} {tk' : Nat} (F : Fr h₀ L h' m) (N : News h₀ L h' all') (hn : ∀ p ∈ all, p ∈ all') : RowEnd h₀ L m all s₁ false { s₁ with heap := h', toks := tk' } :=
  ⟨rfl, h', tk', rfl, F, fun p hp => N p (hn p hp)⟩
section
variable {prog : Program} {w : World} {A : Around} {E : Value → Shared → Prop} {s₁ : Shared} {h₀ : Heap} {L : Addr} {m : Str → Option Value} {env : Env} {ct : PySem.Expr} {x : Str} {scope : Scope} {cl : List (Str × Addr)} {Q : Value → Shared → Prop} {ax : Addr} {vs : List Value} {news : List (Addr × Obj)}
theorem rows_intro (hh : A.handled = none) (F : Fr h₀ L s₁.heap m) (N : News h₀ L s₁.heap news) (hm : (ax, ({ cls := .type "tuple", data := .seq (List.toArray vs) } : Obj)) ∈ news) (hsz : vs.length ≤ 100) (hr : ∀ v ∈ vs, RowOK news v)
    (turn1 : ∀ nw r sg p q a0 a1 b0 b1 t0 t1 t2 t3 t4 r1 r2 I oI C oC D m₂ h tk (E' : Value → Shared → Prop), (r, row3 sg t0 p q) ∈ nw → (p, tup2 a0 a1 t1 t2) ∈ nw → (q, tup2 b0 b1 t3 t4) ∈ nw → GoodP sg a0 a1 b0 b1 → dueV sg a0 a1 b0 b1 = some (r1, r2) → LCg.NsObj oC m₂ → m₂ x = some (.ref r) →
      Fr h₀ L h m → News h₀ L h ((I, oI) :: (C, oC) :: (D, LCg.lst []) :: nw) → wpAny (model prog w) A (isTrue ct (compEnvC scope cl C env) (eval ct (compEnvC scope cl C env))) (RowEnd h₀ L m ((I, oI) :: (C, oC) :: (D, LCg.lst []) :: nw) s₁) E' { s₁ with heap := h, toks := tk })
    (turn0 : ∀ nw r sg p q a0 a1 b0 b1 t0 t1 t2 t3 t4 I oI C oC D m₂ h tk (E' : Value → Shared → Prop), (r, row3 sg t0 p q) ∈ nw → (p, tup2 a0 a1 t1 t2) ∈ nw → (q, tup2 b0 b1 t3 t4) ∈ nw → GoodP sg a0 a1 b0 b1 → dueV sg a0 a1 b0 b1 = none → LCg.NsObj oC m₂ → m₂ x = some (.ref r) →
      Fr h₀ L h m → News h₀ L h ((I, oI) :: (C, oC) :: (D, LCg.lst []) :: nw) → wpAny (model prog w) A (isTrue ct (compEnvC scope cl C env) (eval ct (compEnvC scope cl C env))) (RowEnd h₀ L m ((I, oI) :: (C, oC) :: (D, LCg.lst []) :: nw) s₁) E' { s₁ with heap := h, toks := tk })
    (done : ∀ D h tk, Fr h₀ L h m → News h₀ L h [(D, LCg.lst [])] → Q (.ref D) { s₁ with heap := h, toks := tk }) :
    RowsSrc prog w A h₀ L m env ct x scope cl Q (.ref ax) s₁ := by
  refine ⟨ax, vs, news, rfl, hh, F, N, hm, hsz, ?_, fun D h tk F' N' => done D h tk F' fun p hp => N' p (by rw [List.mem_singleton.mp hp]; exact .head _)⟩
  intro v hv I oI C oC D m₂ h tk E' hC hx F' N'
  obtain ⟨r, sg, p, q, a0, a1, b0, b1, t0, t1, t2, t3, t4, rfl, h1, h2, h3, h4⟩ := hr v hv
  cases hd : dueV sg a0 a1 b0 b1 with
  | none => exact turn0 news r sg p q a0 a1 b0 b1 t0 t1 t2 t3 t4 I oI C oC D m₂ h tk E' h1 h2 h3 h4 hd hC hx F' N'
  | some z => exact turn1 news r sg p q a0 a1 b0 b1 t0 t1 t2 t3 t4 z.1 z.2 I oI C oC D m₂ h tk E' h1 h2 h3 h4 hd hC hx F' N'
end
local macro_rules | `(tactic| walk_at "mine good2") => `(tactic| first | ((with_reducible refine good_div ?_ ?_ ?_ ?_ ?_ ?_) <;> decide) | ((with_reducible refine good_sub ?_ ?_ ?_ ?_ ?_ ?_) <;> decide) | ((with_reducible refine good_mul ?_ ?_ ?_ ?_ ?_ ?_) <;> decide) | ((with_reducible refine good_pow ?_ ?_ ?_ ?_ ?_ ?_ ?_) <;> decide) | ((with_reducible refine good_one ?_ ?_) <;> decide))
theorem law_rows {d0 d1 d2 d3 d4 d5 d6 d7 d8 d9 d10 d11 d12 d13 d14 d15 d16 d17 d18 d19 d20 d21 d22 d23 d24 d25 d26 d27 d28 d29 d30 d31 d32 : Addr} {t1 t2 t3 t4 t5 t6 t7 t8 t9 t10 t11 t12 t13 t14 t15 t16 t17 t18 t19 t20 t21 t22 t23 t24 t25 t26 t27 t28 t29 t30 t31 t32 t33 t34 t35 t36 t37 t38 t39 t40 t41 t42 t43 t44 t45 t46 t47 t48 t49 t50 : Tok} {rest : List (Addr × Obj)} : ∀ v ∈ ([.ref d2, .ref d5, .ref d8, .ref d11, .ref d14, .ref d18, .ref d21, .ref d24, .ref d27, .ref d30] : List Value), RowOK (
      (d32, ({ cls := .type "tuple", data := .seq #[.ref d2, .ref d5, .ref d8, .ref d11, .ref d14, .ref d18, .ref d21, .ref d24, .ref d27, .ref d30] } : Obj)) :: 
      (d31, ({ cls := .type "tuple", data := .seq #[.ref d18, .ref d21, .ref d24, .ref d27, .ref d30] } : Obj)) :: 
      (d30, ({ cls := .type "tuple", data := .seq #[.str (Str.ofString "*") t46, .ref d28, .ref d29] } : Obj)) :: 
      (d29, ({ cls := .type "tuple", data := .seq #[.int 25 t49, .int 1 t50] } : Obj)) :: 
      (d28, ({ cls := .type "tuple", data := .seq #[.int 4 t47, .int 1 t48] } : Obj)) :: 
      (d27, ({ cls := .type "tuple", data := .seq #[.str (Str.ofString "-") t41, .ref d25, .ref d26] } : Obj)) :: 
      (d26, ({ cls := .type "tuple", data := .seq #[.int 25 t44, .int 2 t45] } : Obj)) :: 
      (d25, ({ cls := .type "tuple", data := .seq #[.int 5 t42, .int 1 t43] } : Obj)) :: 
      (d24, ({ cls := .type "tuple", data := .seq #[.str (Str.ofString "**") t36, .ref d22, .ref d23] } : Obj)) :: 
      (d23, ({ cls := .type "tuple", data := .seq #[.int 100 t39, .int 0 t40] } : Obj)) :: 
      (d22, ({ cls := .type "tuple", data := .seq #[.int 1 t37, .int 0 t38] } : Obj)) :: 
      (d21, ({ cls := .type "tuple", data := .seq #[.str (Str.ofString "**") t31, .ref d19, .ref d20] } : Obj)) :: 
      (d20, ({ cls := .type "tuple", data := .seq #[.int 99 t34, .int 0 t35] } : Obj)) :: 
      (d19, ({ cls := .type "tuple", data := .seq #[.int (-1) t32, .int 0 t33] } : Obj)) :: 
      (d18, ({ cls := .type "tuple", data := .seq #[.str (Str.ofString "**") t26, .ref d16, .ref d17] } : Obj)) :: 
      (d17, ({ cls := .type "tuple", data := .seq #[.int 99 t29, .int 0 t30] } : Obj)) :: 
      (d16, ({ cls := .type "tuple", data := .seq #[.int 1 t27, .int 0 t28] } : Obj)) :: 
      (d15, ({ cls := .type "tuple", data := .seq #[.ref d2, .ref d5, .ref d8, .ref d11, .ref d14] } : Obj)) :: 
      (d14, ({ cls := .type "tuple", data := .seq #[.str (Str.ofString "**") t21, .ref d12, .ref d13] } : Obj)) :: 
      (d13, ({ cls := .type "tuple", data := .seq #[.int (-2) t24, .int 0 t25] } : Obj)) :: 
      (d12, ({ cls := .type "tuple", data := .seq #[.int 15 t22, .int 1 t23] } : Obj)) :: 
      (d11, ({ cls := .type "tuple", data := .seq #[.str (Str.ofString "**") t16, .ref d9, .ref d10] } : Obj)) :: 
      (d10, ({ cls := .type "tuple", data := .seq #[.int 0 t19, .int 0 t20] } : Obj)) :: 
      (d9, ({ cls := .type "tuple", data := .seq #[.int 0 t17, .int 0 t18] } : Obj)) :: 
      (d8, ({ cls := .type "tuple", data := .seq #[.str (Str.ofString "/") t11, .ref d6, .ref d7] } : Obj)) :: 
      (d7, ({ cls := .type "tuple", data := .seq #[.int 0 t14, .int 0 t15] } : Obj)) :: 
      (d6, ({ cls := .type "tuple", data := .seq #[.int 1 t12, .int 0 t13] } : Obj)) :: 
      (d5, ({ cls := .type "tuple", data := .seq #[.str (Str.ofString "/") t6, .ref d3, .ref d4] } : Obj)) :: 
      (d4, ({ cls := .type "tuple", data := .seq #[.int 3 t9, .int 0 t10] } : Obj)) :: 
      (d3, ({ cls := .type "tuple", data := .seq #[.int (-2) t7, .int 0 t8] } : Obj)) :: 
      (d2, ({ cls := .type "tuple", data := .seq #[.str (Str.ofString "/") t1, .ref d0, .ref d1] } : Obj)) :: 
      (d1, ({ cls := .type "tuple", data := .seq #[.int 3 t4, .int 0 t5] } : Obj)) :: 
      (d0, ({ cls := .type "tuple", data := .seq #[.int 2 t2, .int 0 t3] } : Obj)) :: rest) v := by
  repeat refine rows_cons (row_in (by walk_at "mine mem") (by walk_at "mine mem") (by walk_at "mine mem") (by walk_at "mine good2")) ?_
  exact rows_nil
local macro_rules | `(tactic| walk_at "call ref") => `(tactic| (k_here; k_dflt (refine' c_seen ?k1 ?k2 ?k3 ?k4 ?k5 ?kK ?kd ?ku ?p1 ?p2 ?p3 ?p4 ?_; (walk_at "mine call"); (case p1 => walk_at "mine pre"); (case p2 => walk_at "mine pre"); (case p3 => walk_at "mine pre"); (case p4 => walk_at "mine pre"); intro D' t1' t2' h' tk' F' N' l'; (try simp only [AllLt, and_true] at l'); (walk_at "mine tidy"))))
local macro_rules | `(tactic| walk_at "call ref") => `(tactic| (k_here; k_dflt (refine' c_seen0 ?k1 ?k2 ?k3 ?k4 ?k5 ?kK ?kd ?ku ?q1 ?q2 ?p1 ?p2 ?p3 ?p4 ?_; (walk_at "mine call"); (case q1 => k_asm); (case q2 => k_asm); (case p1 => walk_at "mine pre"); (case p2 => walk_at "mine pre"); (case p3 => assumption); (case p4 => assumption); intro h' tk' F' N'; (walk_at "mine tidy"))))
local macro_rules | `(tactic| walk_at "RowsSrc") => `(tactic| (k_here; k_dflt (refine' rows_intro ?hh ?F ?N ?hm ?hsz ?hr ?_ ?_ ?_; (case hh => exact rfl); (case F => k_asm); (case N => assumption); (case hm => exact List.Mem.head _); (case hsz => exact Nat.le_of_ble_eq_true rfl); (case hr => with_reducible exact law_rows); (intro nw' r' sg' p' q' a0' a1' b0' b1' t0' t1' t2' t3' t4' r1' r2' I' oI' C' oC' D' m' h' tk' E' w1' w2' w3' w4' w5' w6' w7' F' N'; (walk_at "mine tidy")); rotate_left; (intro nw' r' sg' p' q' a0' a1' b0' b1' t0' t1' t2' t3' t4' I' oI' C' oC' D' m' h' tk' E' w1' w2' w3' w4' w5' w6' w7' F' N'; (walk_at "mine tidy")); rotate_left; (intro D' h' tk' F' N'; (walk_at "mine tidy")); rotate_left)))

def CellsPost (h₀ : Heap) (L : Addr) (m : Str → Option Value) (s : Shared) (v : Value) (s' : Shared) : Prop :=
  ∃ c vs ns n h' tk, v = .ref c ∧ s' = { s with heap := h', toks := tk } ∧ Fr h₀ L h' m ∧ News h₀ L h' [(c, W.listOf vs.toArray n)] ∧ IntsAre vs ns ∧ 0 < ns.length ∧ ns.length ≤ 40
theorem cells_cut {M : Model} {A : Around} {E : Value → Shared → Prop} {s : Shared} {h₀ : Heap} {L : Addr} {m : Str → Option Value} {Q : Value → Shared → Prop} {t : Sem Value} (F : Fr h₀ L s.heap m) (h : wpAny M A t (CellsPost h₀ L m s) E s)
    (k : ∀ c vs ns n h' tk, Fr h₀ L h' m → News h₀ L h' [(c, W.listOf vs.toArray n)] → IntsAre vs ns → 0 < ns.length → ns.length ≤ 40 → Q (.ref c) { s with heap := h', toks := tk }) : wpAny M A t Q E s := by
  refine wpAny_mono h (fun v s' q => ?_) fun _ _ x => x
  obtain ⟨c, vs, ns, n, h', tk, rfl, rfl, F', N', hi, h0, h1⟩ := q
  exact k c vs ns n h' tk F' N' hi h0 h1
theorem cells_end {h₀ h' : Heap} {L c : Addr} {m : Str → Option Value} {s : Shared} {vs : List Value} {ns : List Int} {n tk : Nat} {news : List (Addr × Obj)} (F : Fr h₀ L h' m) (N : News h₀ L h' news) (hm : (c, W.listOf vs.toArray n) ∈ news) (hi : IntsAre vs ns) (h0 : 0 < ns.length) (h1 : ns.length ≤ 40) : CellsPost h₀ L m s (.ref c) { s with heap := h', toks := tk } :=
  ⟨c, vs, ns, n, h', tk, rfl, rfl, F, fun p hp => by rw [List.mem_singleton.mp hp]; exact N _ hm, hi, h0, h1⟩
theorem law_z {z : Str} (h : [Str.ofString "a", Str.ofString "b", Str.ofString "sign"].contains z = false) : z ≠ Str.ofString "a" ∧ z ≠ Str.ofString "b" ∧ z ≠ Str.ofString "sign" := by
  simp only [List.contains_cons, List.contains_nil, Bool.or_eq_false_iff, beq_eq_false_iff_ne, ne_eq] at h
  exact ⟨h.1, h.2.1, h.2.2.1⟩
local macro_rules | `(tactic| walk_at "eval BoolOp") => `(tactic| (k_here; (fail_if_success (with_reducible show wpAny _ _ _ (CellsPost _ _ _ _) _ _)); k_dflt (refine' cells_cut ?F ?_ ?_; (case F => k_asm)); rotate_left; (intro c' vs' ns' n' h' tk' F' N' hi' h0' h1'; (walk_at "mine tidy")); rotate_left))
local macro_rules | `(tactic| walk_at "exec For Name Call cons nil") => `(tactic| (k_here; (rename Fr _ _ _ _ => lF'); (with_unfolding_all refine' For_invVF lF' ?k1 ?k2 ?_; (case k1 => exact rfl); (case k2 => exact rfl); k_whole)))
local macro_rules | `(tactic| walk_at "call ref") => `(tactic| (k_here; k_dflt (refine' c_plainB ?k1 ?k2 ?k3 ?k4 ?k5 ?kK ?kd ?ku ?p1 ?_; (walk_at "mine call"); (case p1 => walk_at "mine pre"); intro u' s' hu' hs0' hs1' D' t1' t2' h' tk' F' N' l'; have hne' := hne_cons N' (by assumption) l'; replace N' := News.swap N'; (try simp only [AllLt, and_true] at l'); (try dsimp only at N'); (walk_at "mine tidy"))))
local macro_rules | `(tactic| walk_at "call ref") => `(tactic| (k_here; k_dflt (refine' c_draw ?k1 ?k2 ?k3 ?k4 ?k5 ?kK ?kd ?ku ?p1 ?p2 ?p3 ?p4 ?p5 ?p6 ?p7 ?p8 ?p9 ?_; (walk_at "mine call"); (case p1 => k_mem); (case p2 => assumption); (case p3 => assumption); (case p4 => assumption); (case p5 => omega); (case p6 => omega); (case p7 => omega); (case p8 => omega); (case p9 => assumption); intro r' t' tk1' h' tk' hr0' hr1' F' N'; (walk_at "mine tidy"))))
local macro_rules | `(tactic| walk_at "call ref") => `(tactic| (k_here; k_dflt (refine' c_seenB ?k1 ?k2 ?k3 ?k4 ?k5 ?kK ?kd ?ku ?p1 ?p2 ?p3 ?p4 ?p5 ?_ ?_; (walk_at "mine call"); (case p1 => k_asm); (case p2 => k_asm); (case p3 => k_mem); (case p4 => k_mem); (case p5 => walk_at "mine good"); rotate_left; (intro hgood' hdue' h' tk' F' N'; (walk_at "mine tidy")); rotate_left; (intro r1' r2' hgood' hdue' D' t1' t2' h' tk' F' N' l'; have hne' := hne_cons N' (by assumption) l'; replace N' := News.swap N'; (try simp only [AllLt, and_true] at l'); (try dsimp only at N'); (walk_at "mine tidy")))))
local macro_rules | `(tactic| walk_at "mine good") => `(tactic| first | exact good_plain (by assumption) (by omega) (by omega) (by omega) (by omega) (by omega) (by omega) | exact good_pow (by omega) (by omega) (by omega) (by omega) (by omega) (by omega) (by omega) | exact good_one (by decide) (by decide))
local macro_rules | `(tactic| walk_at "pyIter ref") => `(tactic| (k_here; k_dflt (k_extra "mine law loop")))
local macro_rules | `(tactic| walk_at "eval ListComp") => `(tactic| (k_here; k_dflt (refine ListComp_rows (F₀ := by k_asm) (by with_unfolding_all rfl) (by decide) (by rfl) (by decide) (by rfl) ?_)))
set_option maxRecDepth 100000 in
set_option maxHeartbeats 8000000 in
theorem law_holds : PySem.Challenge.rw_pb0225_01.Holds := hd (by
  k_with_none
  k_with "mine law loop" => ((k_dflt (refine' law_range (x := Str.ofString "turn") (S := [Str.ofString "a", Str.ofString "b", Str.ofString "sign"]) (n := 2) ?hh ?hr ?hb ?hn ?F ?N ?hne ?_ ?_)); (case hh => rfl); (case hr => assumption); (case hb => rfl); (case hn => decide); (case F => k_asm); (case N => assumption); (case hne => (intro p hp; rw [List.mem_singleton.mp hp]; exact Nat.ne_of_lt (by assumption))); rotate_left; (intro k t1 u h tk F' N'; (try k_sweep); (try k_fold)); rotate_left; (intro i k t1 t u h tk led hi hk0 hk1 hsub hne F' N'; (have hc' := hsub _ (List.Mem.head _)); (try k_sweep); (try k_fold)))
  w_strict (k_go0)
  all_goals try k_fold
  k_steps
  all_goals first
    | exact row_end (by k_asm) (by assumption) (by walk_at "mine sub")
    | exact cells_end (by k_asm) (by assumption) (by k_mem) (by assumption) (by assumption) (List.length_take_le _ _)
    | exact cells_end (by k_asm) (by assumption) (by k_mem) (.cons _ _ .nil) (by decide) (by decide)
    | exact law_end (by k_asm) (by assumption) (by k_mem) (by walk_at "mine sub") (by omega) (by omega) (by (intro z h1 h2; obtain ⟨h3, h4, h5⟩ := law_z h2; simp only [if_neg h1, if_neg h3, if_neg h4, if_neg h5, h2, Bool.false_eq_true, if_false])))

end Mine
theorem PySem.Challenge.cw_pb0225_01_holds : PySem.Challenge.rw_pb0225_01.Holds := by
  exact Mine.law_holds
