import PyProof.Rows.All
import Wide.All
import OpenK.AllK
import Wide.FinOn
import PySem.Challenge.RW_on0217_01
open PySem PySem.W PyProof.Rows
set_option Elab.async false
set_option maxRecDepth 100000
set_option maxHeartbeats 8000000 in
open_top Mine.hd for PySem.Challenge.rw_on0217_01
namespace Mine
abbrev ib (a : Int) : Nat := Builtin.Int.intBits a
abbrev Led := List (Addr × Obj)
abbrev Ret (h₀ : Heap) (L : Addr) (m : PySem.Str → Option Value) (news : Led) (s : Shared) (Q : Value → Shared → Prop) (R : Tok → Value) : Prop :=
  ∀ (t : Tok) (h' : Heap) (tk' : Nat), Fr h₀ L h' m → News h₀ L h' news → Q (R t) { s with heap := h', toks := tk' }
abbrev CC (w : World) (n : Nat) (f : Addr) (vs : List Value) (news : Led) (P : Heap → Addr → (PySem.Str → Option Value) → Shared → (Value → Shared → Prop) → Prop) : Prop :=
  ∀ (loose : List PySem.Str) (mean : ExcName → Option Value) (mg mb : PySem.Str → Option Value)
   (dp un : Nat) (gd : Option (List Code)) (cn : PySem.Str) (cs : PySem.Scope) (a : Addr) (ccd : Value) (cl : List (PySem.Str × Addr)) (outer : List Env) (A₀ : Around) (base h₀ : Heap) (L : Addr) (m : PySem.Str → Option Value) (s : Shared) (Q E : Value → Shared → Prop),
    Below A₀ base outer h₀ → Fr h₀ L s.heap m → (hd.heap_39 w.params).In h₀ → News h₀ L s.heap news → Top hd.view_39 loose mean mg mb h₀ → cs.kind = .function →
    dp + n < recursionLimit → un + 8 * n < cLine → P h₀ L m s Q →
    wpAny (model PySem.Challenge.pw_on0217_01 w) (ktrTop dp un gd cn cs L a ccd cl outer) (call (.ref f) vs) Q E s
theorem use {w : World} {n : Nat} {f : Addr} {vs : List Value} {news : Led} {P : Heap → Addr → (PySem.Str → Option Value) → Shared → (Value → Shared → Prop) → Prop}
   {loose : List PySem.Str} {mean : ExcName → Option Value} {mg mb : PySem.Str → Option Value}
   {dp un : Nat} {gd : Option (List Code)} {cn : PySem.Str} {cs : PySem.Scope} {a : Addr} {ccd : Value} {cl : List (PySem.Str × Addr)} {outer : List Env} {A₀ : Around} {base h₀ : Heap} {L : Addr} {m : PySem.Str → Option Value} {s : Shared} {Q E : Value → Shared → Prop}
   (C : CC w n f vs news P) (B : Below A₀ base outer h₀) (F : Fr h₀ L s.heap m) (X : (hd.heap_39 w.params).In h₀) (N : News h₀ L s.heap news) (T : Top hd.view_39 loose mean mg mb h₀) (k : cs.kind = .function)
   (d : dp + n < recursionLimit) (u : un + 8 * n < cLine) (r : P h₀ L m s Q) :
    wpAny (model PySem.Challenge.pw_on0217_01 w) (ktrTop dp un gd cn cs L a ccd cl outer) (call (.ref f) vs) Q E s :=
  C _ _ _ _ _ _ _ _ _ _ _ _ _ _ _ _ _ _ _ _ _ B F X N T k d u r
section
variable {h₀ h' : Heap} {L : Addr} {m : PySem.Str → Option Value} {news news' : Led} {s : Shared} {Q : Value → Shared → Prop} {t : Tok} {tk' : Nat}
theorem endI {x y : Int} (hret : Ret h₀ L m news s Q (fun t => .int x t)) (F : Fr h₀ L h' m) (N : News h₀ L h' news') (hs : ∀ p ∈ news, p ∈ news') (e : y = x) : Q (.int y t) { s with heap := h', toks := tk' } := by
  subst e
  exact hret t h' tk' F (fun p hp => N p (hs p hp))
theorem endB {x y : Bool} (hret : Ret h₀ L m news s Q (fun _ => .bool x)) (F : Fr h₀ L h' m) (N : News h₀ L h' news') (hs : ∀ p ∈ news, p ∈ news') (e : y = x) : Q (.bool y) { s with heap := h', toks := tk' } := by
  subst e
  exact hret 0 h' tk' F (fun p hp => N p (hs p hp))
end
theorem lt_of_ib {y : Int} {n : Nat} (h : ib y ≤ n) : y.natAbs < 2 ^ n := Nat.lt_of_lt_of_le (natAbs_lt_pow_bits y) (Nat.pow_le_pow_right (by decide) h)
theorem ib_of_lt {y : Int} {n : Nat} (h : y.natAbs < 2 ^ n) : ib y ≤ n := intBits_le h
theorem ib_up {y : Int} {m n : Nat} (h : ib y ≤ m) (hn : m ≤ n) : ib y ≤ n := Nat.le_trans h hn
theorem nopy {y : Int} {n : Nat} (h : ib y ≤ n) (hn : n ≤ 9000) {x : Int} : Builtin.divisionGoesByPylong x y = false := by
  refine PyProof.noPylong_of_log2 ?_
  unfold ib Builtin.Int.intBits at h
  split at h
  · rename_i h0
    have : y = 0 := by simpa using h0
    subst this; decide
  · omega
section
variable {prog : Program} {w : World} {A : Around} {E : Value → Shared → Prop} {s : Shared} {a b : Int} {t u : Tok} {Q : Value → Shared → Prop}
theorem fdb {n : Nat} (hb : b ≠ 0) (hm : ib b ≤ n) (hn : n ≤ 9000) (h : Q (.int (a.fdiv b) s.toks) { s with toks := s.toks + 1 }) : wpAny (model prog w) A (binaryOp .FloorDiv (.int a t) (.int b u)) Q E s :=
  floordiv_int hb h (.inl (nopy hm hn))
theorem pow2 {n : Nat} (hm : ib a ≤ n) (hn : n ≤ 100000) (h : Q (.int (a * a) s.toks) { s with toks := s.toks + 1 }) : wpAny (model prog w) A (binaryOp .Pow (.int a t) (.int 2 u)) Q E s := by
  refine pow_int (by decide) (by have h5 : Builtin.Int.intBits a ≤ 100000 := ib_up hm hn; omega) ?_
  have e : a ^ (2 : Int).toNat = a * a := by
    show a ^ 2 = a * a
    rw [Int.pow_succ, Int.pow_succ, Int.pow_zero, Int.one_mul]
  rw [e]; exact h
theorem powl (r : Int) (hn : 0 ≤ b) (hm : (ib a : Int) * b ≤ 1000) (e : a ^ b.toNat = r) (h : Q (.int r s.toks) { s with toks := s.toks + 1 }) : wpAny (model prog w) A (binaryOp .Pow (.int a t) (.int b u)) Q E s := by
  subst e
  exact pow_int hn (by have h5 : (Builtin.Int.intBits a : Int) * b ≤ 1000 := hm; omega) h
theorem shl16 {n : Nat} (hm : ib a ≤ n) (hn : n ≤ 100000) (h : Q (.int (a * 65536) s.toks) { s with toks := s.toks + 1 }) : wpAny (model prog w) A (binaryOp .LShift (.int a t) (.int 16 u)) Q E s := by
  refine lshift_int (by decide) (by have h5 : Builtin.Int.intBits a ≤ 100000 := ib_up hm hn; omega) ?_
  exact h
theorem shl32 {n : Nat} (hm : ib a ≤ n) (hn : n ≤ 100000) (h : Q (.int (a * 4294967296) s.toks) { s with toks := s.toks + 1 }) : wpAny (model prog w) A (binaryOp .LShift (.int a t) (.int 32 u)) Q E s := by
  refine lshift_int (by decide) (by have h5 : Builtin.Int.intBits a ≤ 100000 := ib_up hm hn; omega) ?_
  exact h
theorem absI (h : ∀ u tk, Q (.int (a.natAbs : Int) u) { s with toks := tk }) : wpAny (model prog w) A (call (.builtin "abs") [.int a t]) Q E s := by
  refine call_abs_int (fun u tk => ?_)
  have e : (if a < 0 then -a else a) = (a.natAbs : Int) := by split <;> omega
  rw [e]; exact h u tk
end
theorem ib_abs {a : Int} {n : Nat} (h : ib a ≤ n) : ib (a.natAbs : Int) ≤ n := bits_of_natAbs_le (by omega) h
theorem ib_abs' {a : Int} {n : Nat} (h : ib a ≤ n) : ib (-a) ≤ n := bits_of_natAbs_le (by omega) h
end Mine
local macro_rules | `(tactic| bits_by_make) => `(tactic| first | with_reducible assumption | ((with_reducible apply Mine.ib_abs); bits_by_make))
local macro_rules | `(tactic| walk_at "binaryOp FloorDiv int int") => `(tactic| (k_here; (with_reducible refine' Mine.fdb ?e1 ?e2 ?e3 ?_); (case e1 => omega); (case e2 => bits_by_make); (case e3 => decide)))
local macro_rules | `(tactic| walk_at "binaryOp Pow int int") => `(tactic| (k_here; (with_reducible refine' Mine.pow2 ?e2 ?e3 ?_); (case e2 => bits_by_make); (case e3 => decide)))
local macro_rules | `(tactic| walk_at "binaryOp Pow int int") => `(tactic| (k_here; (with_reducible show wpAny _ _ (binaryOp _ (Value.int 2 _) (Value.int 31 _)) _ _ _); refine Mine.powl (a := 2) (b := 31) 2147483648 (by decide) (by decide) (by decide) ?_))
local macro_rules | `(tactic| walk_at "binaryOp Pow int int") => `(tactic| (k_here; (with_reducible show wpAny _ _ (binaryOp _ (Value.int 2 _) (Value.int 32 _)) _ _ _); refine Mine.powl (a := 2) (b := 32) 4294967296 (by decide) (by decide) (by decide) ?_))
local macro_rules | `(tactic| walk_at "binaryOp Pow int int") => `(tactic| (k_here; (with_reducible show wpAny _ _ (binaryOp _ (Value.int 2 _) (Value.int 33 _)) _ _ _); refine Mine.powl (a := 2) (b := 33) 8589934592 (by decide) (by decide) (by decide) ?_))
local macro_rules | `(tactic| walk_at "binaryOp Pow int int") => `(tactic| (k_here; (with_reducible show wpAny _ _ (binaryOp _ (Value.int 2 _) (Value.int 15 _)) _ _ _); refine Mine.powl (a := 2) (b := 15) 32768 (by decide) (by decide) (by decide) ?_))
local macro_rules | `(tactic| walk_at "binaryOp Pow int int") => `(tactic| (k_here; (with_reducible show wpAny _ _ (binaryOp _ (Value.int 2 _) (Value.int 16 _)) _ _ _); refine Mine.powl (a := 2) (b := 16) 65536 (by decide) (by decide) (by decide) ?_))
local macro_rules | `(tactic| walk_at "binaryOp Pow int int") => `(tactic| (k_here; (with_reducible show wpAny _ _ (binaryOp _ (Value.int 10 _) (Value.int 18 _)) _ _ _); refine Mine.powl (a := 10) (b := 18) 1000000000000000000 (by decide) (by decide) (by decide) ?_))
local macro_rules | `(tactic| walk_at "binaryOp LShift int int") => `(tactic| (k_here; (with_reducible refine' Mine.shl16 ?e2 ?e3 ?_); (case e2 => bits_by_make); (case e3 => decide)))
local macro_rules | `(tactic| walk_at "binaryOp LShift int int") => `(tactic| (k_here; (with_reducible refine' Mine.shl32 ?e2 ?e3 ?_); (case e2 => bits_by_make); (case e3 => decide)))
local macro_rules | `(tactic| walk_at "call builtin:abs") => `(tactic| (k_here; (with_reducible refine' Mine.absI ?_); (intro u' tk'); (try dsimp only)))
local macro_rules | `(tactic| walk_at "eval Call") => `(tactic| (k_here; k_dflt (refine Call_ ?_)))
local macro_rules | `(tactic| walk_at "my_enter") => `(tactic| (refine wpAny_call ?_; (refine' code_def ?k1 ?k2 ?k3 ?k4 ?k5 ?kA ?kF ?kK ?k6 ?k7 ?k8 ?k9 ?kB ?_ ?c2 ?c3 ?c4 ?c5; (case kA => exact rfl); (case kF => exact rfl); (case kK => first | exact rfl | assumption); (case k1 => k_asm); (case k2 => k_asm); (case k3 => k_asm); (case k4 => k_asm); (case k5 => k_asm); (case k6 => k_is); (case k7 => k_is); (case k8 => ktr_room); (case k9 => exact BindsTo.of_eq rfl); (case c5 => decide); (case kB => exact locs rfl); (case c2 => exact rfl); (case c3 => exact rfl); (case c4 => exact rfl); k_whole; intro g' L' h' FG' F' N' B' X' T'; (try dsimp only); (try k_lift B'); (try k_fold))))
local macro_rules | `(tactic| walk_at "call ref") => `(tactic| (k_here; k_dflt (walk_at "my_enter")))
local macro_rules | `(tactic| walk_at "my_news") => `(tactic| k_asm)
local macro_rules | `(tactic| walk_at "my_ne") => `(tactic| first | assumption | decide | omega)
local macro_rules | `(tactic| walk_at "my_true") => `(tactic| first | rfl | exact decide_eq_true (by omega) | (exfalso; omega) | ((try simp only [decide_eq_decide, beq_iff_eq, bne_iff_ne, decide_eq_true_eq]); omega))
local macro_rules | `(tactic| walk_at "my_ends") => `(tactic| first | exact (fun _ h => h) | (intro p hp; first | exact hp | (repeat (first | assumption | refine List.Mem.tail _ ?_)) | kcj_all) | kcj_all)
local macro_rules | `(tactic| walk_at "my_endI") => `(tactic| (refine' Mine.endI ?r ?F ?N ?S ?_; (case r => assumption); (case F => k_asm); (case N => k_asm); (case S => walk_at "my_ends")))
local macro_rules | `(tactic| walk_at "my_endB") => `(tactic| (refine' Mine.endB ?r ?F ?N ?S ?_; (case r => assumption); (case F => k_asm); (case N => k_asm); (case S => walk_at "my_ends")))
local macro_rules | `(tactic| walk_at "my_go") => `(tactic| (k_dflt (walk_at "my_enter"); w_strict k_steps))
namespace Mine
def md0 (t c : Int) : Int := if t < 0 then 0 - Int.fdiv (0 - 2 * t + c) (2 * c) else Int.fdiv (2 * t + c) (2 * c)
def md (a b c : Int) : Int := if c < 0 then md0 (0 - a * b) (0 - c) else md0 (a * b) c
def cd0 (t c : Int) : Int := if t < 0 then 0 - Int.fdiv (0 - t) c else Int.fdiv t c
def cd (a b c : Int) : Int := if c < 0 then cd0 (0 - a * b) (0 - c) else cd0 (a * b) c
theorem ib_md {a b c : Int} {m n k : Nat} (ha : ib a ≤ m) (hb : ib b ≤ n) (hc : ib c ≤ k) : ib (md a b c) ≤ m + n + k + 8 := by
  have h0 : ib (0 : Int) ≤ 0 := by decide
  have h2 : ib (2 : Int) ≤ 2 := by decide
  have hab := bits_mul ha hb
  have H : ∀ t c : Int, ib t ≤ m + n + 1 → ib c ≤ k + 1 → ib (md0 t c) ≤ m + n + k + 8 := by
    intro t c ht hc
    have h2t := bits_mul h2 ht
    have e1 := bits_fdiv (b := 2 * c) (bits_add h2t hc)
    have e2 := bits_fdiv (b := 2 * c) (bits_add (bits_sub h0 h2t) hc)
    have e3 := bits_sub h0 e2
    unfold md0
    split
    · exact ib_up e3 (by omega)
    · exact ib_up e1 (by omega)
  unfold md
  split
  · exact H _ _ (ib_up (bits_sub h0 hab) (by omega)) (ib_up (bits_sub h0 hc) (by omega))
  · exact H _ _ (ib_up hab (by omega)) (ib_up hc (by omega))
theorem ib_cd {a b c : Int} {m n : Nat} (ha : ib a ≤ m) (hb : ib b ≤ n) : ib (cd a b c) ≤ m + n + 3 := by
  have h0 : ib (0 : Int) ≤ 0 := by decide
  have hab := bits_mul ha hb
  have H : ∀ t c : Int, ib t ≤ m + n + 1 → ib (cd0 t c) ≤ m + n + 3 := by
    intro t c ht
    have e1 := bits_fdiv (b := c) ht
    have e2 := bits_fdiv (b := c) (bits_sub h0 ht)
    have e3 := bits_sub h0 e2
    unfold cd0
    split
    · exact ib_up e3 (by omega)
    · exact ib_up e1 (by omega)
  unfold cd
  split
  · exact H _ _ (ib_up (bits_sub h0 hab) (by omega))
  · exact H _ _ (ib_up hab (by omega))
end Mine
local macro_rules | `(tactic| bits_by_make) => `(tactic| first | ((with_reducible apply Mine.ib_md) <;> bits_by_make) | ((with_reducible apply Mine.ib_cd) <;> bits_by_make))
namespace Mine
set_option maxHeartbeats 4000000 in
theorem muldiv_c (w : World) (news : Led) (a b c : Int) (ta tb tc : Tok) (hc : c ≠ 0) (ha : ib a ≤ 1000) (hb : ib b ≤ 1000) (hc' : ib c ≤ 1000) :
   CC w 1 21 [.int a ta, .int b tb, .int c tc] news (fun h₀ L m s Q => Ret h₀ L m news s Q (fun t => .int (md a b c) t)) := by
  unfold CC
  intros
  walk_at "my_go"
  all_goals (walk_at "my_endI"; unfold md md0; (repeat' split) <;> first | rfl | contradiction | (exfalso; omega))
set_option maxHeartbeats 4000000 in
theorem cut_div_c (w : World) (news : Led) (a b c : Int) (ta tb tc : Tok) (hc : c ≠ 0) (ha : ib a ≤ 1000) (hb : ib b ≤ 1000) (hc' : ib c ≤ 1000) :
   CC w 1 28 [.int a ta, .int b tb, .int c tc] news (fun h₀ L m s Q => Ret h₀ L m news s Q (fun t => .int (cd a b c) t)) := by
  unfold CC
  intros
  walk_at "my_go"
  all_goals (walk_at "my_endI"; unfold cd cd0; (repeat' split) <;> first | rfl | contradiction | (exfalso; omega))
end Mine
local macro_rules | `(tactic| walk_at "call ref") => `(tactic| (k_here; (with_reducible show wpAny _ _ (call (Value.ref 21) _) _ _ _); k_dflt (refine' Mine.use (Mine.muldiv_c _ _ _ _ _ _ _ _ ?p1 ?p2 ?p3 ?p4) ?k1 ?k2 ?k3 ?k4 ?k5 ?k6 ?kd ?ku ?_; (case k1 => k_asm); (case k2 => k_asm); (case k3 => k_asm); (case k4 => walk_at "my_news"); (case k5 => k_asm); (case k6 => first | exact rfl | assumption); (case p1 => walk_at "my_ne"); (case p2 => exact Mine.ib_up (by bits_by_make) (by decide)); (case p3 => exact Mine.ib_up (by bits_by_make) (by decide)); (case p4 => exact Mine.ib_up (by bits_by_make) (by decide)); (case kd => ktr_room); (case ku => ktr_units); (skip); (intro t' h' tk' F' N'); (try dsimp only); (try k_fold))))
local macro_rules | `(tactic| walk_at "call ref") => `(tactic| (k_here; (with_reducible show wpAny _ _ (call (Value.ref 28) _) _ _ _); k_dflt (refine' Mine.use (Mine.cut_div_c _ _ _ _ _ _ _ _ ?p1 ?p2 ?p3 ?p4) ?k1 ?k2 ?k3 ?k4 ?k5 ?k6 ?kd ?ku ?_; (case k1 => k_asm); (case k2 => k_asm); (case k3 => k_asm); (case k4 => walk_at "my_news"); (case k5 => k_asm); (case k6 => first | exact rfl | assumption); (case p1 => walk_at "my_ne"); (case p2 => exact Mine.ib_up (by bits_by_make) (by decide)); (case p3 => exact Mine.ib_up (by bits_by_make) (by decide)); (case p4 => exact Mine.ib_up (by bits_by_make) (by decide)); (case kd => ktr_room); (case ku => ktr_units); (skip); (intro t' h' tk' F' N'); (try dsimp only); (try k_fold))))
namespace Mine
def Near (t c q : Int) : Prop := 2 * (t - c * q).natAbs < c.natAbs ∨ (2 * (t - c * q).natAbs = c.natAbs ∧ t.natAbs < (c * q).natAbs)
def Cut (t c q : Int) : Prop := (t - c * q).natAbs < c.natAbs ∧ (t - c * q = 0 ∨ (0 < t - c * q ∧ 0 < t) ∨ (t - c * q < 0 ∧ t < 0))
theorem near0 {t c : Int} (h : 0 < c) : Near t c (md0 t c) := by
  unfold Near md0
  split
  · have f := fdiv_fmod_facts (0 - 2 * t + c) (2 * c)
    generalize (0 - 2 * t + c).fdiv (2 * c) = q at f
    generalize (0 - 2 * t + c).fmod (2 * c) = r at f
    have f1 := f.2.1
    have f2 := f.2.2.1 (by omega)
    rw [Int.mul_assoc] at f1
    rw [Int.mul_sub, Int.mul_zero]
    generalize c * q = p at *
    omega
  · have f := fdiv_fmod_facts (2 * t + c) (2 * c)
    generalize (2 * t + c).fdiv (2 * c) = q at f
    generalize (2 * t + c).fmod (2 * c) = r at f
    have f1 := f.2.1
    have f2 := f.2.2.1 (by omega)
    rw [Int.mul_assoc] at f1
    generalize c * q = p at *
    omega
theorem md_near {a b c t : Int} (h : c ≠ 0) (e : a * b = t) : Near t c (md a b c) := by
  unfold md
  rw [e]
  split
  · have := near0 (t := 0 - t) (c := 0 - c) (by omega)
    unfold Near at *
    generalize md0 (0 - t) (0 - c) = q at *
    have e : (0 - c) * q = - (c * q) := by rw [Int.sub_mul, Int.zero_mul]; omega
    rw [e] at this
    generalize c * q = p at *
    omega
  · exact near0 (by omega)
theorem md_mod {t c : Int} (h : 0 < c) : md0 (0 - t) c = 0 - md0 t c := by
  unfold md0
  have z : (2 * 0 + c).fdiv (2 * c) = 0 := by
    have f := fdiv_fmod_facts (2 * 0 + c) (2 * c)
    generalize (2 * 0 + c).fdiv (2 * c) = q at f
    have f1 := f.2.1
    have f2 := f.2.2.1 (by omega)
    generalize (2 * 0 + c).fmod (2 * c) = r at *
    rw [Int.mul_assoc] at f1
    rcases Int.lt_trichotomy q 0 with hq | hq | hq
    · have := Int.mul_le_mul_of_nonneg_left (show q ≤ -1 by omega) (show 0 ≤ c by omega)
      generalize c * q = p at *
      omega
    · exact hq
    · have := Int.mul_le_mul_of_nonneg_left (show 1 ≤ q by omega) (show 0 ≤ c by omega)
      generalize c * q = p at *
      omega
  rcases Int.lt_trichotomy t 0 with ht | ht | ht
  · rw [if_neg (by omega), if_pos ht]
    rw [show 2 * (0 - t) + c = 0 - 2 * t + c by omega]
    omega
  · subst ht
    rw [if_neg (by omega), if_neg (by omega)]
    rw [show (2 : Int) * (0 - 0) + c = 2 * 0 + c by omega, z]
    rfl
  · rw [if_pos (by omega), if_neg (by omega)]
    rw [show 0 - 2 * (0 - t) + c = 2 * t + c by omega]
theorem md_neg {a b c : Int} (h : c ≠ 0) : md (0 - a) b c = 0 - md a b c := by
  unfold md
  have e : (0 - a) * b = 0 - a * b := by rw [Int.sub_mul, Int.zero_mul]
  rw [e]
  split
  · exact md_mod (by omega)
  · exact md_mod (by omega)
theorem md_negc {a b c : Int} (h : c ≠ 0) : md a b (0 - c) = 0 - md a b c := by
  unfold md
  rcases Int.lt_trichotomy c 0 with hc | hc | hc
  · rw [if_neg (by omega), if_pos hc]
    have := md_mod (t := a * b) (c := 0 - c) (by omega)
    omega
  · exact absurd hc h
  · rw [if_pos (by omega), if_neg (by omega)]
    rw [show 0 - (0 - c) = c by omega]
    exact md_mod hc
theorem cut0 {t c : Int} (h : 0 < c) : Cut t c (cd0 t c) := by
  unfold Cut cd0
  split
  · have f := fdiv_fmod_facts (0 - t) c
    generalize (0 - t).fdiv c = q at f
    generalize (0 - t).fmod c = r at f
    have f1 := f.2.1
    have f2 := f.2.2.1 (by omega)
    rw [Int.mul_sub, Int.mul_zero]
    generalize c * q = p at *
    omega
  · by_cases ht : t = 0
    · subst ht
      rw [Int.zero_fdiv, Int.mul_zero]
      omega
    have f := fdiv_fmod_facts t c
    generalize t.fdiv c = q at f
    generalize t.fmod c = r at f
    have f1 := f.2.1
    have f2 := f.2.2.1 (by omega)
    generalize c * q = p at *
    omega
theorem cd_cut {a b c t : Int} (h : c ≠ 0) (e : a * b = t) : Cut t c (cd a b c) := by
  unfold cd
  rw [e]
  split
  · have := cut0 (t := 0 - t) (c := 0 - c) (by omega)
    unfold Cut at *
    generalize cd0 (0 - t) (0 - c) = q at *
    have e : (0 - c) * q = - (c * q) := by rw [Int.sub_mul, Int.zero_mul]; omega
    rw [e] at this
    generalize c * q = p at *
    omega
  · exact cut0 (by omega)
set_option maxHeartbeats 4000000 in
theorem nearest_c (w : World) (news : Led) (t c q : Int) (ta tb tc : Tok) (h : Near t c q) (ha : ib t ≤ 1000) (hb : ib c ≤ 1000) (hc' : ib q ≤ 2000) :
   CC w 1 119 [.int t ta, .int c tb, .int q tc] news (fun h₀ L m s Q => Ret h₀ L m news s Q (fun _ => .bool true)) := by
  unfold CC
  intros
  unfold Near at h
  walk_at "my_go"
  all_goals (walk_at "my_endB"; first | exact decide_eq_true (by omega) | (exfalso; omega))
set_option maxHeartbeats 4000000 in
theorem iscut_c (w : World) (news : Led) (t c q : Int) (ta tb tc : Tok) (h : Cut t c q) (ha : ib t ≤ 1000) (hb : ib c ≤ 1000) (hc' : ib q ≤ 2000) :
   CC w 1 126 [.int t ta, .int c tb, .int q tc] news (fun h₀ L m s Q => Ret h₀ L m news s Q (fun _ => .bool true)) := by
  unfold CC
  intros
  unfold Cut at h
  walk_at "my_go"
  all_goals (walk_at "my_endB"; first | exact decide_eq_true (by omega) | (exfalso; omega) | ((try simp only [decide_eq_decide, beq_iff_eq]); omega))
end Mine
local macro_rules | `(tactic| walk_at "call ref") => `(tactic| (k_here; (with_reducible show wpAny _ _ (call (Value.ref 119) _) _ _ _); k_dflt (refine' Mine.use (Mine.nearest_c _ _ _ _ _ _ _ _ ?p0 ?p1 ?p2 ?p3) ?k1 ?k2 ?k3 ?k4 ?k5 ?k6 ?kd ?ku ?_; (case k1 => k_asm); (case k2 => k_asm); (case k3 => k_asm); (case k4 => walk_at "my_news"); (case k5 => k_asm); (case k6 => first | exact rfl | assumption); (case p1 => exact Mine.ib_up (by bits_by_make) (by decide)); (case p2 => exact Mine.ib_up (by bits_by_make) (by decide)); (case p3 => exact Mine.ib_up (by bits_by_make) (by decide)); (case p0 => exact Mine.md_near (by first | assumption | decide) (by first | rfl | omega)); (case kd => ktr_room); (case ku => ktr_units); (skip); (intro t' h' tk' F' N'); (try dsimp only); (try k_fold))))
local macro_rules | `(tactic| walk_at "call ref") => `(tactic| (k_here; (with_reducible show wpAny _ _ (call (Value.ref 126) _) _ _ _); k_dflt (refine' Mine.use (Mine.iscut_c _ _ _ _ _ _ _ _ ?p0 ?p1 ?p2 ?p3) ?k1 ?k2 ?k3 ?k4 ?k5 ?k6 ?kd ?ku ?_; (case k1 => k_asm); (case k2 => k_asm); (case k3 => k_asm); (case k4 => walk_at "my_news"); (case k5 => k_asm); (case k6 => first | exact rfl | assumption); (case p1 => exact Mine.ib_up (by bits_by_make) (by decide)); (case p2 => exact Mine.ib_up (by bits_by_make) (by decide)); (case p3 => exact Mine.ib_up (by bits_by_make) (by decide)); (case p0 => exact Mine.cd_cut (by first | assumption | decide) (by first | rfl | omega)); (case kd => ktr_room); (case ku => ktr_units); (skip); (intro t' h' tk' F' N'); (try dsimp only); (try k_fold))))
namespace Mine
theorem fm_facts (a b : Int) (h : 0 < b) : b * a.fdiv b + a.fmod b = a ∧ 0 ≤ a.fmod b ∧ a.fmod b < b :=
  ⟨(fdiv_fmod_facts a b).2.1, (fdiv_fmod_facts a b).2.2.1 h⟩
set_option maxHeartbeats 4000000 in
theorem products_c (w : World) (news : Led) (a b c : Int) (ta tb tc : Tok) (hc : c ≠ 0) (ha : ib a ≤ 100) (hb : ib b ≤ 100) (hc' : ib c ≤ 100) :
   CC w 5 133 [.int a ta, .int b tb, .int c tc] news (fun h₀ L m s Q => Ret h₀ L m news s Q (fun _ => .bool true)) := by
  unfold CC
  intros
  have h1 := md_neg (a := a) (b := b) hc
  have h2 := md_negc (a := a) (b := b) hc
  walk_at "my_go"
  all_goals (first | (walk_at "my_endB"; walk_at "my_true"))
section
variable {prog : Program} {w : World} {A : Around} {E : Value → Shared → Prop} {s : Shared} {a b : Int} {t u : Tok} {Q : Value → Shared → Prop}
theorem modq (hb : 0 < b) (h : ∀ q r : Int, a = b * q + r → 0 ≤ r → r < b → Q (.int r s.toks) { s with toks := s.toks + 1 }) : wpAny (model prog w) A (binaryOp .Mod (.int a t) (.int b u)) Q E s :=
  have f := fm_facts a b hb
  mod_int' (by omega) (h (a.fdiv b) (a.fmod b) (by omega) f.2.1 f.2.2)
theorem divq {n : Nat} (hb : 0 < b) (hm : ib b ≤ n) (hn : n ≤ 9000) (h : ∀ q r : Int, a = b * q + r → 0 ≤ r → r < b → Q (.int q s.toks) { s with toks := s.toks + 1 }) : wpAny (model prog w) A (binaryOp .FloorDiv (.int a t) (.int b u)) Q E s :=
  have f := fm_facts a b hb
  floordiv_int (by omega) (h (a.fdiv b) (a.fmod b) (by omega) f.2.1 f.2.2) (.inl (nopy hm hn))
end
end Mine
local macro_rules | `(tactic| walk_at "binaryOp Mod int int") => `(tactic| (k_here; (with_reducible refine' Mine.modq ?e1 ?_); (case e1 => first | decide | omega); (intro q' r' hq' hr' hr2'); (try dsimp only)))
local macro_rules | `(tactic| walk_at "binaryOp FloorDiv int int") => `(tactic| (k_here; (with_reducible refine' Mine.divq ?e1 ?e2 ?e3 ?_); (case e1 => first | decide | omega); (case e2 => bits_by_make); (case e3 => decide); (intro q' r' hq' hr' hr2'); (try dsimp only)))
namespace Mine
set_option maxHeartbeats 4000000 in
theorem bits_c (w : World) (news : Led) (a : Int) (ta : Tok) (ha : ib a ≤ 100) :
   CC w 5 140 [.int a ta] news (fun h₀ L m s Q => Ret h₀ L m news s Q (fun _ => .bool true)) := by
  unfold CC
  intros
  walk_at "my_go"
  all_goals (first | (walk_at "my_endB"; walk_at "my_true"))
set_option maxHeartbeats 4000000 in
theorem dots_c (w : World) (news : Led) (a : Int) (ta : Tok) (ha : ib a ≤ 100) :
   CC w 5 147 [.int a ta] news (fun h₀ L m s Q => Ret h₀ L m news s Q (fun _ => .bool true)) := by
  unfold CC
  intros
  walk_at "my_go"
  all_goals (first | (walk_at "my_endB"; walk_at "my_true"))
end Mine
local macro_rules | `(tactic| walk_at "call ref") => `(tactic| (k_here; (with_reducible show wpAny _ _ (call (Value.ref 133) _) _ _ _); k_dflt (refine' Mine.use (Mine.products_c _ _ _ _ _ _ _ _ ?p1 ?p2 ?p3 ?p4) ?k1 ?k2 ?k3 ?k4 ?k5 ?k6 ?kd ?ku ?_; (case k1 => k_asm); (case k2 => k_asm); (case k3 => k_asm); (case k4 => walk_at "my_news"); (case k5 => k_asm); (case k6 => first | exact rfl | assumption); (case p1 => walk_at "my_ne"); (case p2 => exact Mine.ib_up (by bits_by_make) (by decide)); (case p3 => exact Mine.ib_up (by bits_by_make) (by decide)); (case p4 => exact Mine.ib_up (by bits_by_make) (by decide)); (case kd => ktr_room); (case ku => ktr_units); (skip); (intro t' h' tk' F' N'); (try dsimp only); (try k_fold))))
local macro_rules | `(tactic| walk_at "call ref") => `(tactic| (k_here; (with_reducible show wpAny _ _ (call (Value.ref 140) _) _ _ _); k_dflt (refine' Mine.use (Mine.bits_c _ _ _ _ ?p2) ?k1 ?k2 ?k3 ?k4 ?k5 ?k6 ?kd ?ku ?_; (case k1 => k_asm); (case k2 => k_asm); (case k3 => k_asm); (case k4 => walk_at "my_news"); (case k5 => k_asm); (case k6 => first | exact rfl | assumption); (case p2 => exact Mine.ib_up (by bits_by_make) (by decide)); (case kd => ktr_room); (case ku => ktr_units); (skip); (intro t' h' tk' F' N'); (try dsimp only); (try k_fold))))
local macro_rules | `(tactic| walk_at "call ref") => `(tactic| (k_here; (with_reducible show wpAny _ _ (call (Value.ref 147) _) _ _ _); k_dflt (refine' Mine.use (Mine.dots_c _ _ _ _ ?p2) ?k1 ?k2 ?k3 ?k4 ?k5 ?k6 ?kd ?ku ?_; (case k1 => k_asm); (case k2 => k_asm); (case k3 => k_asm); (case k4 => walk_at "my_news"); (case k5 => k_asm); (case k6 => first | exact rfl | assumption); (case p2 => exact Mine.ib_up (by bits_by_make) (by decide)); (case kd => ktr_room); (case ku => ktr_units); (skip); (intro t' h' tk' F' N'); (try dsimp only); (try k_fold))))
namespace Mine
def IsRoot (n r : Int) : Prop := 0 ≤ r ∧ r * r ≤ n ∧ n < (r + 1) * (r + 1)
def RootP (n f : Int) : Prop := 1 ≤ f ∧ (∀ k : Int, 0 ≤ k → k * k ≤ n → k ≤ f) ∧ ib f ≤ 1000
theorem RootP.bits {n f : Int} (h : RootP n f) : ib f ≤ 1000 := h.2.2
theorem RootP.pos {n f : Int} (h : RootP n f) : 0 < f := by have := h.1; omega
theorem RootP.done {n f : Int} (h : RootP n f) (h1 : ¬ n < f * f) : IsRoot n f := by
  refine ⟨by have := h.1; omega, by omega, ?_⟩
  refine Classical.byContradiction fun hc => ?_
  have := h.2.1 (f + 1) (by have := h.1; omega) (by omega)
  omega
theorem root_small {n : Int} (h0 : 0 ≤ n) (h : n < 2) : IsRoot n n := by
  rcases (show n = 0 ∨ n = 1 by omega) with e | e <;> subst e <;> (unfold IsRoot; decide)
theorem step_lt {n f q r : Int} (h1 : 1 ≤ f) (hl : n < f * f) (hq : n = f * q + r) (hr : 0 ≤ r) : q < f := by
  refine Classical.byContradiction fun hc => ?_
  have := Int.mul_le_mul_of_nonneg_left (show f ≤ q by omega) (show 0 ≤ f by omega)
  omega
theorem step_ge {n f q r k : Int} (h1 : 1 ≤ f) (hq : n = f * q + r) (hr : r < f) (hk : k * k ≤ n) : 2 * k ≤ f + q := by
  refine Classical.byContradiction fun hc => ?_
  have h2 := Int.mul_le_mul_of_nonneg_left (show q + 1 ≤ 2 * k - f by omega) (show 0 ≤ f by omega)
  have h3 : f * (2 * k - f) ≤ k * k := by
    have h4 : 0 ≤ (k - f) * (k - f) := by
      rcases Int.le_total 0 (k - f) with h | h
      · exact Int.mul_nonneg h h
      · exact Int.mul_nonneg_of_nonpos_of_nonpos h h
    have e1 : (k - f) * (k - f) = k * k - 2 * (f * k) + f * f := by
      rw [Int.sub_mul, Int.mul_sub, Int.mul_sub, Int.mul_comm k f]; omega
    have e2 : f * (2 * k - f) = 2 * (f * k) - f * f := by
      rw [Int.mul_sub, Int.mul_left_comm]
    omega
  rw [Int.mul_add, Int.mul_one] at h2
  omega
theorem RootP.step {n f q r q2 r2 : Int} (h : RootP n f) (h2 : 2 ≤ n) (hl : n < f * f) (hq : n = f * q + r) (hr : 0 ≤ r) (hr2 : r < f) (hq2 : f + q = 2 * q2 + r2) (hs : 0 ≤ r2) (hs2 : r2 < 2) : RootP n q2 := by
  have h1 := h.1
  have hlt := step_lt h1 hl hq hr
  have k1 := step_ge (k := 1) h1 hq hr2 (by omega)
  refine ⟨by omega, fun k hk hkn => ?_, ?_⟩
  · have := step_ge h1 hq hr2 hkn
    omega
  · exact bits_of_natAbs_le (by omega) h.2.2
theorem RootP.less {n f q r q2 r2 : Int} (h : RootP n f) (hl : n < f * f) (hq : n = f * q + r) (hr : 0 ≤ r) (hq2 : f + q = 2 * q2 + r2) (hs : 0 ≤ r2) : q2.toNat < f.toNat := by
  have h1 := h.1
  have hlt := step_lt h1 hl hq hr
  omega
theorem RootP.start {n q r : Int} (hn : ib n ≤ 200) (hq : (Builtin.Int.intBits n : Int) + 1 = 2 * q + r) (hr : 0 ≤ r) (hr2 : r < 2) : RootP n (1 * 2 ^ q.toNat) := by
  have hn' : Builtin.Int.intBits n ≤ 200 := hn
  have hb : n.natAbs < 2 ^ Builtin.Int.intBits n := natAbs_lt_pow_bits n
  have hle : 2 ^ Builtin.Int.intBits n ≤ 2 ^ (q.toNat + q.toNat) := Nat.pow_le_pow_right (by decide) (by omega)
  have hb' : n.natAbs < 2 ^ (q.toNat + q.toNat) := Nat.lt_of_lt_of_le hb hle
  rw [Nat.pow_add] at hb'
  have hc : ((2 ^ q.toNat : Nat) : Int) = 2 ^ q.toNat := by simp
  have hpos : 0 < 2 ^ q.toNat := Nat.two_pow_pos _
  have h200 : 2 ^ q.toNat < 2 ^ 1000 := Nat.pow_lt_pow_right (by decide) (by omega)
  rw [Int.one_mul, ← hc]
  clear hc
  refine ⟨?_, fun k hk hkn => ?_, ?_⟩
  · generalize 2 ^ q.toNat = p at *; omega
  · refine Classical.byContradiction fun hgt => ?_
    have hk2 : (2 ^ q.toNat) * (2 ^ q.toNat) ≤ k.natAbs * k.natAbs := by
      have : 2 ^ q.toNat ≤ k.natAbs := by generalize 2 ^ q.toNat = p at *; omega
      exact Nat.mul_le_mul this this
    have hkk : ((k.natAbs * k.natAbs : Nat) : Int) = k * k := by rw [← Int.natAbs_mul]; have := Int.mul_nonneg hk hk; omega
    generalize 2 ^ q.toNat * 2 ^ q.toNat = pp at *
    omega
  · exact ib_of_lt (by rw [Int.natAbs_natCast]; exact h200)
abbrev RetR (n : Int) (h₀ : Heap) (L : Addr) (m : PySem.Str → Option Value) (news : Led) (s : Shared) (Q : Value → Shared → Prop) : Prop :=
  ∀ (r : Int) (t : Tok) (h' : Heap) (tk' : Nat), IsRoot n r → Fr h₀ L h' m → News h₀ L h' news → Q (.int r t) { s with heap := h', toks := tk' }
theorem endR {n y : Int} {h₀ h' : Heap} {L : Addr} {m : PySem.Str → Option Value} {news news' : Led} {s : Shared} {Q : Value → Shared → Prop} {t : Tok} {tk' : Nat} (hret : RetR n h₀ L m news s Q) (F : Fr h₀ L h' m) (N : News h₀ L h' news') (hs : ∀ p ∈ news, p ∈ news') (e : IsRoot n y) : Q (.int y t) { s with heap := h', toks := tk' } :=
  hret y t h' tk' e F (fun p hp => N p (hs p hp))
end Mine
local macro_rules | `(tactic| walk_at "binaryOp FloorDiv int int") => `(tactic| (k_here; (with_reducible refine' Mine.divq ?e1 ?e2 ?e3 ?_); (case e1 => exact Mine.RootP.pos (by with_reducible assumption)); (case e2 => bits_by_make); (case e3 => decide); (intro q' r' hq' hr' hr2'); (try dsimp only)))
local macro_rules | `(tactic| bits_by_make) => `(tactic| first | exact Mine.RootP.bits (by with_reducible assumption) | fail)
local macro_rules | `(tactic| walk_at "my_endR") => `(tactic| (refine' Mine.endR ?r ?F ?N ?S ?_; (case r => assumption); (case F => k_asm); (case N => k_asm); (case S => walk_at "my_ends")))
namespace Mine
set_option maxHeartbeats 4000000 in
theorem root_c (w : World) (news : Led) (n : Int) (tn : Tok) (h0 : 0 ≤ n) (hn : ib n ≤ 200) :
   CC w 1 63 [.int n tn] news (fun h₀ L m s Q => RetR n h₀ L m news s Q) := by
  unfold CC
  intros
  have hn' : Builtin.Int.intBits n ≤ 200 := hn
  k_with "exec While Compare cons nil" => k_while_given ["n"] (fun n _ f => Mine.RootP n f) (fun _ _ f => f.toNat) "found"
  k_with "state" => first | exact Mine.RootP.start (by assumption) (by assumption) (by assumption) (by assumption) | exact Mine.RootP.step (by assumption) (by omega) (by assumption) (by assumption) (by assumption) (by assumption) (by assumption) (by assumption) (by assumption)
  k_with "measure" => exact Mine.RootP.less (by assumption) (by assumption) (by assumption) (by assumption) (by assumption) (by assumption)
  walk_at "my_go"
  all_goals (first | (walk_at "my_endR"; first | exact Mine.root_small (by assumption) (by assumption) | exact Mine.RootP.done (by assumption) (by assumption)))
end Mine
local macro_rules | `(tactic| walk_at "call ref") => `(tactic| (k_here; (with_reducible show wpAny _ _ (call (Value.ref 63) _) _ _ _); k_dflt (refine' Mine.use (Mine.root_c _ _ _ _ ?p1 ?p2) ?k1 ?k2 ?k3 ?k4 ?k5 ?k6 ?kd ?ku ?_; (case k1 => k_asm); (case k2 => k_asm); (case k3 => k_asm); (case k4 => walk_at "my_news"); (case k5 => k_asm); (case k6 => first | exact rfl | assumption); (case p1 => walk_at "my_ne"); (case p2 => exact Mine.ib_up (by bits_by_make) (by decide)); (case kd => ktr_room); (case ku => ktr_units); (skip); (intro r' t' h' tk' hR' F' N'); (try dsimp only); (try k_fold))))
namespace Mine
def PartOk (way sq told : Int) : Prop :=
  (way = 0 → told = 0) ∧ (way ≠ 0 → 4 * 16384 * way * (4 * 16384 * way) ≤ (4 * (told.natAbs : Int) + 3) * (4 * (told.natAbs : Int) + 3) * sq ∧ (told = 0 ∨ (0 < told ∧ 0 < way) ∨ (told < 0 ∧ way < 0)) ∧
    (4 * (told.natAbs : Int) - 3 ≤ 0 ∨ (4 * (told.natAbs : Int) - 3) * (4 * (told.natAbs : Int) - 3) * sq ≤ 4 * 16384 * way * (4 * 16384 * way)))
theorem sgn_no {x v : Int} (h : v = 0 ∨ (0 < v ∧ 0 < x) ∨ (v < 0 ∧ x < 0)) (hv : v ≠ 0) (hd : (decide (0 < v) != decide (0 < x)) = true) : False := by
  by_cases h1 : 0 < v <;> by_cases h2 : 0 < x <;> simp only [h1, h2, decide_true, decide_false] at hd
  · exact absurd hd (by decide)
  · omega
  · omega
  · exact absurd hd (by decide)
set_option maxHeartbeats 4000000 in
theorem part_c (w : World) (news : Led) (x sq v : Int) (ta tb tc : Tok) (h : PartOk x sq v) (ha : ib x ≤ 1000) (hb : ib sq ≤ 1000) (hc' : ib v ≤ 1000) :
   CC w 1 154 [.int x ta, .int sq tb, .int v tc] news (fun h₀ L m s Q => Ret h₀ L m news s Q (fun _ => .bool true)) := by
  unfold CC
  intros
  unfold PartOk at h
  walk_at "my_go"
  all_goals (first | (walk_at "my_endB"; walk_at "my_true") | (exfalso; exact Mine.sgn_no (h.2 (by assumption)).2.1 (by assumption) (by assumption)))
end Mine
local macro_rules | `(tactic| walk_at "call ref") => `(tactic| (k_here; (with_reducible show wpAny _ _ (call (Value.ref 154) _) _ _ _); k_dflt (refine' Mine.use (Mine.part_c _ _ _ _ _ _ _ _ ?p0 ?p1 ?p2 ?p3) ?k1 ?k2 ?k3 ?k4 ?k5 ?k6 ?kd ?ku ?_; (case k1 => k_asm); (case k2 => k_asm); (case k3 => k_asm); (case k4 => walk_at "my_news"); (case k5 => k_asm); (case k6 => first | exact rfl | assumption); (case p0 => walk_at "my_part"); (case p1 => exact Mine.ib_up (by bits_by_make) (by decide)); (case p2 => exact Mine.ib_up (by bits_by_make) (by decide)); (case p3 => exact Mine.ib_up (by bits_by_make) (by decide)); (case kd => ktr_room); (case ku => ktr_units); (skip); (intro t' h' tk' F' N'); (try dsimp only); (try k_fold))))
namespace Mine
theorem IsRoot.bits {n r : Int} {k : Nat} (h : IsRoot n r) (hn : ib n ≤ k) : ib r ≤ k := by
  refine bits_of_natAbs_le ?_ hn
  have h1 := h.1
  have h2 := h.2.1
  rcases (show r = 0 ∨ 1 ≤ r by omega) with e | e
  · subst e; exact Nat.zero_le _
  · have := Int.mul_le_mul_of_nonneg_left e h1
    omega
theorem sq_nn (x : Int) : 0 ≤ x * x := by
  rcases Int.le_total 0 x with h | h
  · exact Int.mul_nonneg h h
  · exact Int.mul_nonneg_of_nonpos_of_nonpos h h
theorem sq_pos {x : Int} (h : x ≠ 0) : 1 ≤ x * x := by
  rcases Int.lt_or_gt_of_ne h with h | h
  · have := Int.mul_pos_of_neg_of_neg h h; omega
  · have := Int.mul_pos h h; omega
theorem IsRoot.pos {n r : Int} (h : IsRoot n r) (hn : 1 ≤ n) : r ≠ 0 := by
  intro e
  have h2 := h.2.2
  rw [e] at h2
  omega
def UnitOk (x y p q : Int) : Prop := ((x ≠ 0 ∨ y ≠ 0) → ∃ r, IsRoot ((x * x + y * y) * 4294967296) r ∧ p = md (x * 65536) 16384 r ∧ q = md (y * 65536) 16384 r) ∧ ((x = 0 ∧ y = 0) → p = 16384 ∧ q = 0)
theorem sq2_pos {x y : Int} (h : x ≠ 0 ∨ y ≠ 0) : 1 ≤ (x * x + y * y) * 4294967296 := by
  have h1 := sq_nn x
  have h2 := sq_nn y
  rcases h with h | h
  · have := sq_pos h; omega
  · have := sq_pos h; omega
abbrev tup2 (p q : Int) (tp tq : Tok) : Obj := { cls := .type "tuple", data := .seq #[.int p tp, .int q tq] }
abbrev RetU (x y : Int) (h₀ : Heap) (L : Addr) (m : PySem.Str → Option Value) (news : Led) (s : Shared) (Q : Value → Shared → Prop) : Prop :=
  ∀ (D : Addr) (p q : Int) (tp tq : Tok) (h' : Heap) (tk' : Nat), UnitOk x y p q → ib p ≤ 1000 → ib q ≤ 1000 → Fr h₀ L h' m → News h₀ L h' ((D, tup2 p q tp tq) :: news) → (∀ p ∈ news, p.1 < D) → Q (.ref D) { s with heap := h', toks := tk' }
theorem endU {x y p q : Int} {h₀ h' : Heap} {L D : Addr} {m : PySem.Str → Option Value} {news : Led} {s : Shared} {Q : Value → Shared → Prop} {tp tq : Tok} {tk' : Nat} (hret : RetU x y h₀ L m news s Q) (F : Fr h₀ L h' m) (N : News h₀ L h' ((D, tup2 p q tp tq) :: news)) (l : ∀ p ∈ news, p.1 < D) (hu : UnitOk x y p q) (hp : ib p ≤ 1000) (hq : ib q ≤ 1000) : Q (.ref D) { s with heap := h', toks := tk' } :=
  hret D p q tp tq h' tk' hu hp hq F N l
end Mine
local macro_rules | `(tactic| bits_by_make) => `(tactic| first | ((with_reducible refine' Mine.IsRoot.bits ?ir ?ib2); (case ir => with_reducible assumption); (case ib2 => bits_by_make)) | fail)
local macro_rules | `(tactic| walk_at "my_ne") => `(tactic| first | exact Mine.IsRoot.pos (by with_reducible assumption) (Mine.sq2_pos (by omega)) | fail)
namespace Mine
set_option maxHeartbeats 4000000 in
theorem unit_c (w : World) (news : Led) (x y : Int) (tx ty : Tok) (hx : ib x ≤ 40) (hy : ib y ≤ 40) :
   CC w 3 70 [.int x tx, .int y ty] news (fun h₀ L m s Q => RetU x y h₀ L m news s Q) := by
  unfold CC
  intros
  have hx2 := sq_nn x
  have hy2 := sq_nn y
  walk_at "my_go"
  all_goals (refine' endU (by assumption) ?F ?N ?l9 ?u9 ?p9 ?q9; (case F => k_asm); (case N => k_asm); (case l9 => assumption); (case u9 => first | exact ⟨fun _ => by omega, fun _ => ⟨rfl, rfl⟩⟩ | exact ⟨fun _ => ⟨_, by assumption, rfl, rfl⟩, fun h => by omega⟩); (case p9 => exact Mine.ib_up (by bits_by_make) (by decide)); (case q9 => exact Mine.ib_up (by bits_by_make) (by decide)))
end Mine
local macro_rules | `(tactic| walk_at "call ref") => `(tactic| (k_here; (with_reducible show wpAny _ _ (call (Value.ref 70) _) _ _ _); k_dflt (refine' Mine.use (Mine.unit_c _ _ _ _ _ _ ?p1 ?p2) ?k1 ?k2 ?k3 ?k4 ?k5 ?k6 ?kd ?ku ?_; (case k1 => k_asm); (case k2 => k_asm); (case k3 => k_asm); (case k4 => walk_at "my_news"); (case k5 => k_asm); (case k6 => first | exact rfl | assumption); (case p1 => exact Mine.ib_up (by bits_by_make) (by decide)); (case p2 => exact Mine.ib_up (by bits_by_make) (by decide)); (case kd => ktr_room); (case ku => ktr_units); (skip); (intro D' p' q' tp' tq' h' tk' hU' hp' hq' F' N' l1); (try dsimp only); (try k_fold))))
namespace Mine
abbrev SrcOk (a b : Int) : Prop := 0 ≤ a ∧ 0 ≤ b ∧ b < 2147483647
abbrev src (a b : Int) (ta tb : Tok) (n : Nat) : Obj := listOf #[.int a ta, .int b tb] n
abbrev RetT (top : Int) (S : Addr) (rest : Led) (h₀ : Heap) (L : Addr) (m : PySem.Str → Option Value) (s : Shared) (Q : Value → Shared → Prop) : Prop :=
  ∀ (d a b : Int) (td ta tb : Tok) (n : Nat) (h' : Heap) (tk' : Nat), 0 ≤ d → d < top → 0 ≤ a → 0 ≤ b → b < 2147483647 → Fr h₀ L h' m → News h₀ L h' ((S, src a b ta tb n) :: rest) → Q (.int d td) { s with heap := h', toks := tk' }
theorem endT {top d a b : Int} {S : Addr} {rest : Led} {td ta tb : Tok} {n : Nat} {h₀ h' : Heap} {L : Addr} {m : PySem.Str → Option Value} {s : Shared} {Q : Value → Shared → Prop} {tk' : Nat} (hret : RetT top S rest h₀ L m s Q) (F : Fr h₀ L h' m) (N : News h₀ L h' ((S, src a b ta tb n) :: rest)) (h1 : 0 ≤ d) (h2 : d < top) (h3 : 0 ≤ a) (h4 : 0 ≤ b) (h5 : b < 2147483647) : Q (.int d td) { s with heap := h', toks := tk' } :=
  hret d a b td ta tb n h' tk' h1 h2 h3 h4 h5 F N
theorem q_nn {a t q r : Int} (ht : 0 < t) (h0 : 0 ≤ a) (hq : a = t * q + r) (hr : r < t) : 0 ≤ q := by
  refine Classical.byContradiction fun hc => ?_
  have := Int.mul_le_mul_of_nonneg_left (show q ≤ -1 by omega) (show 0 ≤ t by omega)
  omega
theorem ib_get0 {x : Int} {l : List Int} {k : Nat} (h : ib x ≤ k) : ib ((x :: l).getD (Int.toNat 0) 0) ≤ k := h
theorem ib_get1 {x y : Int} {l : List Int} {k : Nat} (h : ib y ≤ k) : ib ((x :: y :: l).getD (Int.toNat 1) 0) ≤ k := h
theorem ib_31 {y : Int} (h0 : 0 ≤ y) (h1 : y < 2147483647) : ib y ≤ 31 := ib_of_lt (by omega)
end Mine
local macro_rules | `(tactic| bits_by_make) => `(tactic| first | ((with_reducible apply Mine.ib_get0); bits_by_make) | ((with_reducible apply Mine.ib_get1); bits_by_make) | ((with_reducible refine' Mine.ib_31 ?ir ?is); (case ir => with_reducible assumption); (case is => with_reducible assumption)) | fail)
local macro_rules | `(tactic| k_all) => `(tactic| with_reducible assumption)
namespace Mine
set_option maxHeartbeats 4000000 in
theorem take_c (w : World) (S : Addr) (rest : Led) (a b top : Int) (ta tb tt : Tok) (n : Nat) (hS : ∀ p ∈ rest, p.1 ≠ S) (ht : 0 < top) (ht2 : ib top ≤ 100) (h0 : 0 ≤ a) (h1 : 0 ≤ b) (h2 : b < 2147483647) :
   CC w 1 98 [.ref S, .int top tt] ((S, src a b ta tb n) :: rest) (fun h₀ L m s Q => RetT top S rest h₀ L m s Q) := by
  unfold CC
  intros
  walk_at "my_go"
  all_goals (first | (refine' endT (by assumption) ?F ?N ?u1 ?u2 ?u3 ?u4 ?u5; (case F => k_asm); (case N => k_asm); (case u1 => assumption); (case u2 => assumption); (case u3 => first | assumption | exact Mine.q_nn ht h0 (by assumption) (by assumption)); (case u4 => assumption); (case u5 => assumption)))
end Mine
local macro_rules | `(tactic| walk_at "call ref") => `(tactic| (k_here; (with_reducible show wpAny _ _ (call (Value.ref 98) _) _ _ _); k_dflt (refine' Mine.use (Mine.take_c _ _ _ _ _ _ _ _ _ _ ?p0 ?p1 ?p2 ?p3 ?p4 ?p5) ?k1 ?k2 ?k3 ?k4 ?k5 ?k6 ?kd ?ku ?_; (case k1 => k_asm); (case k2 => k_asm); (case k3 => k_asm); (case k4 => walk_at "my_news"); (case k5 => k_asm); (case k6 => first | exact rfl | assumption); (case p0 => k_all); (case p1 => first | decide | omega); (case p2 => first | decide | exact Mine.ib_up (by bits_by_make) (by decide)); (case p3 => first | assumption | omega); (case p4 => first | assumption | omega); (case p5 => first | assumption | omega); (case kd => ktr_room); (case ku => ktr_units); (skip); (intro d' a' b' td' ta' tb' n' h' tk' hd0' hd1' ha' hb0' hb1' F' N'); (try dsimp only); (try k_fold))))
namespace Mine
section
variable {h₀ h : Heap} {L : Addr} {x y z u v : Addr × Obj} {r : Led}
theorem perm1 (N : News h₀ L h (x :: y :: r)) : News h₀ L h (y :: x :: r) := N.perm fun p hp => by
  rcases hp with _ | ⟨_, _ | ⟨_, hp⟩⟩
  · exact .tail _ (.head _)
  · exact .head _
  · exact .tail _ (.tail _ hp)
theorem perm2 (N : News h₀ L h (x :: y :: z :: r)) : News h₀ L h (z :: x :: y :: r) := N.perm fun p hp => by
  rcases hp with _ | ⟨_, _ | ⟨_, _ | ⟨_, hp⟩⟩⟩
  · exact .tail _ (.tail _ (.head _))
  · exact .head _
  · exact .tail _ (.head _)
  · exact .tail _ (.tail _ (.tail _ hp))
end
abbrev RetN (S : Addr) (rest : Led) (h₀ : Heap) (L : Addr) (m : PySem.Str → Option Value) (s : Shared) (Q : Value → Shared → Prop) : Prop :=
  ∀ (v a b : Int) (tv ta tb : Tok) (n : Nat) (h' : Heap) (tk' : Nat), -30000000000 ≤ v → v ≤ 30000000000 → 0 ≤ a → 0 ≤ b → b < 2147483647 → Fr h₀ L h' m → News h₀ L h' ((S, src a b ta tb n) :: rest) → Q (.int v tv) { s with heap := h', toks := tk' }
theorem endN {v a b : Int} {S : Addr} {rest rest2 : Led} {tv ta tb : Tok} {n : Nat} {h₀ h' : Heap} {L : Addr} {m : PySem.Str → Option Value} {s : Shared} {Q : Value → Shared → Prop} {tk' : Nat} (hret : RetN S rest h₀ L m s Q) (F : Fr h₀ L h' m) (N : News h₀ L h' ((S, src a b ta tb n) :: rest2)) (hs : ∀ p ∈ rest, p ∈ rest2) (hv : -30000000000 ≤ v ∧ v ≤ 30000000000) (h3 : 0 ≤ a) (h4 : 0 ≤ b) (h5 : b < 2147483647) : Q (.int v tv) { s with heap := h', toks := tk' } :=
  hret v a b tv ta tb n h' tk' hv.1 hv.2 h3 h4 h5 F (N.perm fun p hp => by
    rcases hp with _ | ⟨_, hp⟩
    · exact .head _
    · exact .tail _ (hs _ hp))
theorem getD_bnd {lo hi : Int} (h0 : lo ≤ 0) (h1 : 0 ≤ hi) : ∀ {l : List Int}, (∀ x ∈ l, lo ≤ x ∧ x ≤ hi) → ∀ i : Nat, lo ≤ l.getD i 0 ∧ l.getD i 0 ≤ hi
  | [], _, _ => ⟨h0, h1⟩
  | _ :: _, h, 0 => h _ (.head _)
  | _ :: _, h, i + 1 => getD_bnd h0 h1 (fun x hx => h x (.tail _ hx)) i
theorem pick13 (i : Nat) : 0 ≤ [1, 2, 3, 32, 63, 64, 65, 16383, 16384, 40000, 2147483648 - 1, 2147483648, 8589934592 + 5].getD i (0 : Int) ∧ [1, 2, 3, 32, 63, 64, 65, 16383, 16384, 40000, 2147483648 - 1, 2147483648, 8589934592 + 5].getD i (0 : Int) ≤ 8589934597 :=
  getD_bnd (by decide) (by decide) (by decide) i
theorem pick5 {T q r d : Int} {i : Nat} (hT : 0 ≤ T ∧ T ≤ 8589934597) (hq : T = 2 * q + r) (hr : 0 ≤ r) (hr2 : r < 2) (hd : 0 ≤ d) (hd2 : d < 200) : 0 ≤ [T, T, q, 3 * T, d].getD i 0 ∧ [T, T, q, 3 * T, d].getD i 0 ≤ 30000000000 := by
  refine getD_bnd (by decide) (by decide) (fun x hx => ?_) i
  simp only [List.mem_cons, List.not_mem_nil, or_false] at hx
  omega
theorem n_pos {v : Int} (h : 0 ≤ v ∧ v ≤ 30000000000) : -30000000000 ≤ v ∧ v ≤ 30000000000 := by omega
theorem n_neg {v : Int} (h : 0 ≤ v ∧ v ≤ 30000000000) : -30000000000 ≤ 0 - v ∧ 0 - v ≤ 30000000000 := by omega
end Mine
local macro_rules | `(tactic| walk_at "my_news") => `(tactic| first | exact Mine.perm1 (by k_asm) | exact Mine.perm2 (by k_asm) | fail)
namespace Mine
set_option maxHeartbeats 4000000 in
theorem number_c (w : World) (S : Addr) (rest : Led) (a b : Int) (ta tb : Tok) (n : Nat) (hS : ∀ p ∈ rest, p.1 ≠ S) (h0 : 0 ≤ a) (h1 : 0 ≤ b) (h2 : b < 2147483647) :
   CC w 3 112 [.ref S] ((S, src a b ta tb n) :: rest) (fun h₀ L m s Q => RetN S rest h₀ L m s Q) := by
  unfold CC
  intros
  walk_at "my_go"
  all_goals (refine' endN (by assumption) ?F ?N ?S9 ?v9 ?u3 ?u4 ?u5; (case F => k_asm); (case N => k_asm); (case S9 => walk_at "my_ends"); (case u3 => assumption); (case u4 => assumption); (case u5 => assumption); (case v9 => first | exact n_neg (pick5 (pick13 _) (by assumption) (by assumption) (by assumption) (by assumption) (by assumption)) | exact n_pos (pick5 (pick13 _) (by assumption) (by assumption) (by assumption) (by assumption) (by assumption))))
end Mine
local macro_rules | `(tactic| walk_at "my_own") => `(tactic| k_all)
local macro_rules | `(tactic| walk_at "call ref") => `(tactic| (k_here; (with_reducible show wpAny _ _ (call (Value.ref 112) _) _ _ _); k_dflt (refine' Mine.use (Mine.number_c _ _ _ _ _ _ _ _ ?p0 ?p3 ?p4 ?p5) ?k1 ?k2 ?k3 ?k4 ?k5 ?k6 ?kd ?ku ?_; (case k1 => k_asm); (case k2 => k_asm); (case k3 => k_asm); (case k4 => walk_at "my_news"); (case k5 => k_asm); (case k6 => first | exact rfl | assumption); (case p0 => walk_at "my_own"); (case p3 => first | assumption | omega); (case p4 => first | assumption | omega); (case p5 => first | assumption | omega); (case kd => ktr_room); (case ku => ktr_units); (skip); (intro v' a' b' tv' ta' tb' n' h' tk' hv0' hv1' ha' hb0' hb1' F' N'); (try dsimp only); (try k_fold))))
namespace Mine
theorem absmul {a b : Int} (h : 0 ≤ a) : ((a * b).natAbs : Int) = a * (b.natAbs : Int) := by
  rw [Int.natAbs_mul, Int.natCast_mul]
  rw [show (a.natAbs : Int) = a by omega]
theorem sq_abs (a : Int) : a * a = (a.natAbs : Int) * (a.natAbs : Int) := by
  rw [← Int.natCast_mul, Int.natAbs_mul_self]
theorem mul_le2 {a b c d : Int} (h0 : 0 ≤ a) (h2 : 0 ≤ c) (h : a ≤ b) (h' : c ≤ d) : a * c ≤ b * d :=
  Int.mul_le_mul h h' h2 (by omega)
theorem mul_sq (a b : Int) : (a * b) * (a * b) = (a * a) * (b * b) := by
  rw [Int.mul_assoc, Int.mul_assoc, Int.mul_left_comm b a b]
theorem root_ge {S L : Int} (hL : IsRoot (S * 4294967296) L) (hS : 1 ≤ S) : 65536 ≤ L := by
  refine Classical.byContradiction fun hc => ?_
  have h0 := hL.1
  have h1 := hL.2.2
  have := mul_le2 (a := L + 1) (b := 65536) (c := L + 1) (d := 65536) (by omega) (by omega) (by omega) (by omega)
  omega
theorem root_way {S L X : Int} (hL : IsRoot (S * 4294967296) L) (h0 : 0 ≤ X) (hX : X * X ≤ S) : 65536 * X ≤ L := by
  refine Classical.byContradiction fun hc => ?_
  have h2 := hL.1
  have h1 := hL.2.2
  have := mul_le2 (a := L + 1) (b := 65536 * X) (c := L + 1) (d := 65536 * X) (by omega) (by omega) (by omega) (by omega)
  rw [mul_sq 65536 X] at this
  generalize X * X = Y at *
  omega
theorem part_near {x S L p : Int} (hL : IsRoot (S * 4294967296) L) (hS : 1 ≤ S) (hx : x * x ≤ S) (N : Near (x * 1073741824) L p) : PartOk x S p := by
  have hge := root_ge hL hS
  rw [sq_abs] at hx
  have hway := root_way hL (X := (x.natAbs : Int)) (by omega) hx
  have hab : ((L * p).natAbs : Int) = L * (p.natAbs : Int) := absmul (by omega)
  have n1 : 2 * (L * (p.natAbs : Int)) ≤ 2147483648 * (x.natAbs : Int) + L := by
    unfold Near at N
    generalize L * p = q at *
    generalize L * (p.natAbs : Int) = q' at *
    omega
  have n2 : 2147483648 * (x.natAbs : Int) ≤ 2 * (L * (p.natAbs : Int)) + L := by
    unfold Near at N
    generalize L * p = q at *
    generalize L * (p.natAbs : Int) = q' at *
    omega
  have hP : p.natAbs ≤ 16384 := by
    refine Classical.byContradiction fun hc => ?_
    have := Int.mul_le_mul_of_nonneg_left (show 16385 ≤ (p.natAbs : Int) by omega) (show 0 ≤ L by omega)
    omega
  have hsgn : p = 0 ∨ (0 < p ∧ 0 < x) ∨ (p < 0 ∧ x < 0) := by
    rcases Int.lt_trichotomy p 0 with hp | hp | hp
    · have := Int.mul_le_mul_of_nonneg_left (show p ≤ -1 by omega) (show 0 ≤ L by omega)
      unfold Near at N
      generalize L * p = q at *
      omega
    · exact .inl hp
    · have := Int.mul_le_mul_of_nonneg_left (show 1 ≤ p by omega) (show 0 ≤ L by omega)
      unfold Near at N
      generalize L * p = q at *
      omega
  have eX : 4 * 16384 * x * (4 * 16384 * x) = 4294967296 * ((x.natAbs : Int) * (x.natAbs : Int)) := by
    rw [show (4 : Int) * 16384 * x = 65536 * x by omega, mul_sq, sq_abs x]
    rfl
  refine ⟨fun h => ?_, fun _ => ⟨?_, hsgn, ?_⟩⟩
  · subst h
    omega
  · rw [eX]
    have hP0 : (0 : Int) ≤ 4 * (p.natAbs : Int) + 3 := by omega
    have g1 : 4294967296 * (x.natAbs : Int) ≤ L * (4 * (p.natAbs : Int) + 3) := by
      rw [Int.mul_add, Int.mul_left_comm]
      omega
    have g2 := mul_le2 (a := 4294967296 * (x.natAbs : Int)) (c := 4294967296 * (x.natAbs : Int)) (by omega) (by omega) g1 g1
    rw [mul_sq, mul_sq] at g2
    generalize 4 * (p.natAbs : Int) + 3 = K at *
    have g3 := Int.mul_le_mul_of_nonneg_right hL.2.1 (Int.mul_nonneg hP0 hP0)
    rw [show S * 4294967296 * (K * K) = 4294967296 * (K * K * S) by rw [Int.mul_comm S, Int.mul_assoc, Int.mul_comm S]] at g3
    generalize (x.natAbs : Int) * (x.natAbs : Int) = XX at *
    generalize L * L * (K * K) = Z at *
    generalize K * K * S = Y at *
    omega
  · rw [eX]
    rcases (show 0 < 4 * (p.natAbs : Int) - 3 ∨ 4 * (p.natAbs : Int) - 3 ≤ 0 by omega) with hp | hp
    · right
      have g1 : (L + 1) * (4 * (p.natAbs : Int) - 3) ≤ 4294967296 * (x.natAbs : Int) := by
        rw [Int.add_mul, Int.mul_sub, Int.mul_left_comm]
        omega
      have g0 : 0 ≤ (L + 1) * (4 * (p.natAbs : Int) - 3) := Int.mul_nonneg (by omega) (by omega)
      have g2 := mul_le2 g0 g0 g1 g1
      rw [mul_sq, mul_sq] at g2
      have hP0 : (0 : Int) ≤ 4 * (p.natAbs : Int) - 3 := by omega
      generalize 4 * (p.natAbs : Int) - 3 = K at *
      have g3 := Int.mul_le_mul_of_nonneg_right (Int.le_of_lt hL.2.2) (Int.mul_nonneg hP0 hP0)
      rw [show S * 4294967296 * (K * K) = 4294967296 * (K * K * S) by rw [Int.mul_comm S, Int.mul_assoc, Int.mul_comm S]] at g3
      generalize (x.natAbs : Int) * (x.natAbs : Int) = XX at *
      generalize (L + 1) * (L + 1) * (K * K) = Z at *
      generalize K * K * S = Y at *
      omega
    · left; exact hp
theorem part_a {a b p q : Int} (h : 0 < a * a + b * b) (u : UnitOk a b p q) : PartOk a (a * a + b * b) p := by
  have hab : a ≠ 0 ∨ b ≠ 0 := by
    rcases Classical.em (a = 0) with e | e
    · right; intro e'; subst e; subst e'; exact absurd h (by decide)
    · exact .inl e
  obtain ⟨r, hr, hp, _⟩ := u.1 hab
  have h1 := root_ge hr (by omega)
  have h2 := sq_nn b
  subst hp
  exact part_near hr (by omega) (by omega) (md_near (by omega) (by omega))
theorem part_b {a b p q : Int} (h : 0 < a * a + b * b) (u : UnitOk a b p q) : PartOk b (a * a + b * b) q := by
  have hab : a ≠ 0 ∨ b ≠ 0 := by
    rcases Classical.em (a = 0) with e | e
    · right; intro e'; subst e; subst e'; exact absurd h (by decide)
    · exact .inl e
  obtain ⟨r, hr, _, hq⟩ := u.1 hab
  have h1 := root_ge hr (by omega)
  have h2 := sq_nn a
  subst hq
  exact part_near hr (by omega) (by omega) (md_near (by omega) (by omega))
end Mine
local macro_rules | `(tactic| walk_at "my_part") => `(tactic| first | exact Mine.part_a (by assumption) (by assumption) | exact Mine.part_b (by assumption) (by assumption) | fail)
namespace Mine
theorem CC.mono {w : World} {n : Nat} {f : Addr} {vs : List Value} {news : Led} {P P' : Heap → Addr → (PySem.Str → Option Value) → Shared → (Value → Shared → Prop) → Prop} (C : CC w n f vs news P) (h : ∀ h₀ L m s Q, P' h₀ L m s Q → P h₀ L m s Q) : CC w n f vs news P' := by
  intro _ _ _ _ _ _ _ _ _ _ _ _ _ _ _ _ _ _ _ _ _ B F X N T k d u r
  exact C _ _ _ _ _ _ _ _ _ _ _ _ _ _ _ _ _ _ _ _ _ B F X N T k d u (h _ _ _ _ _ r)
theorem muldiv_v (w : World) (news : Led) (a b c v : Int) (ta tb tc : Tok) (hc : c ≠ 0) (ha : ib a ≤ 1000) (hb : ib b ≤ 1000) (hc' : ib c ≤ 1000) (e : md a b c = v) :
   CC w 1 21 [.int a ta, .int b tb, .int c tc] news (fun h₀ L m s Q => Ret h₀ L m news s Q (fun t => .int v t)) := e ▸ muldiv_c w news a b c ta tb tc hc ha hb hc'
theorem cut_div_v (w : World) (news : Led) (a b c v : Int) (ta tb tc : Tok) (hc : c ≠ 0) (ha : ib a ≤ 1000) (hb : ib b ≤ 1000) (hc' : ib c ≤ 1000) (e : cd a b c = v) :
   CC w 1 28 [.int a ta, .int b tb, .int c tc] news (fun h₀ L m s Q => Ret h₀ L m news s Q (fun t => .int v t)) := e ▸ cut_div_c w news a b c ta tb tc hc ha hb hc'
theorem root_u {n r v : Int} (h : IsRoot n r) (hv : IsRoot n v) : r = v := by
  obtain ⟨a, b, c⟩ := h
  obtain ⟨x, y, z⟩ := hv
  rcases Int.lt_trichotomy r v with h | h | h
  · have := Int.mul_le_mul (show r + 1 ≤ v by omega) (show r + 1 ≤ v by omega) (by omega) (by omega)
    omega
  · exact h
  · have := Int.mul_le_mul (show v + 1 ≤ r by omega) (show v + 1 ≤ r by omega) (by omega) (by omega)
    omega
theorem root_v (w : World) (news : Led) (n v : Int) (tn : Tok) (h0 : 0 ≤ n) (hn : ib n ≤ 200) (e : IsRoot n v) :
   CC w 1 63 [.int n tn] news (fun h₀ L m s Q => Ret h₀ L m news s Q (fun t => .int v t)) :=
  (root_c w news n tn h0 hn).mono fun h₀ L m s Q hret r t h' tk' hr F N => by
    rw [root_u hr e]; exact hret t h' tk' F N
theorem unit_00 (w : World) (news : Led) (tx ty : Tok) :
   CC w 3 70 [.int 0 tx, .int 0 ty] news (fun h₀ L m s Q => ∀ (D : Addr) (tp tq : Tok) (h' : Heap) (tk' : Nat), Fr h₀ L h' m → News h₀ L h' ((D, tup2 16384 0 tp tq) :: news) → (∀ p ∈ news, p.1 < D) → Q (.ref D) { s with heap := h', toks := tk' }) :=
  (unit_c w news 0 0 tx ty (by decide) (by decide)).mono fun h₀ L m s Q hret D p q tp tq h' tk' hu _ _ F N l => by
    obtain ⟨rfl, rfl⟩ := hu.2 ⟨rfl, rfl⟩
    exact hret D tp tq h' tk' F N l
theorem ib_num {v : Int} (h0 : -30000000000 ≤ v) (h1 : v ≤ 30000000000) : ib v ≤ 36 := ib_of_lt (by omega)
end Mine
local macro_rules | `(tactic| bits_by_make) => `(tactic| first | ((with_reducible refine' Mine.ib_num ?ir ?is); (case ir => with_reducible assumption); (case is => with_reducible assumption)) | fail)
local macro_rules | `(tactic| walk_at "call ref") => `(tactic| (k_here; (with_reducible show wpAny _ _ (call (Value.ref 21) _) _ _ _); k_dflt (refine' Mine.use (Mine.muldiv_v _ _ (-1) 1 2 (-1) _ _ _ ?p1 ?p2 ?p3 ?p4 ?p5) ?k1 ?k2 ?k3 ?k4 ?k5 ?k6 ?kd ?ku ?_; (case k1 => k_asm); (case k2 => k_asm); (case k3 => k_asm); (case k4 => walk_at "my_news"); (case k5 => k_asm); (case k6 => first | exact rfl | assumption); (case p1 => decide); (case p2 => decide); (case p3 => decide); (case p4 => decide); (case p5 => decide); (case kd => ktr_room); (case ku => ktr_units); (skip); (intro t' h' tk' F' N'); (try dsimp only); (try k_fold))))
local macro_rules | `(tactic| walk_at "call ref") => `(tactic| (k_here; (with_reducible show wpAny _ _ (call (Value.ref 21) _) _ _ _); k_dflt (refine' Mine.use (Mine.muldiv_v _ _ 1 1 2 1 _ _ _ ?p1 ?p2 ?p3 ?p4 ?p5) ?k1 ?k2 ?k3 ?k4 ?k5 ?k6 ?kd ?ku ?_; (case k1 => k_asm); (case k2 => k_asm); (case k3 => k_asm); (case k4 => walk_at "my_news"); (case k5 => k_asm); (case k6 => first | exact rfl | assumption); (case p1 => decide); (case p2 => decide); (case p3 => decide); (case p4 => decide); (case p5 => decide); (case kd => ktr_room); (case ku => ktr_units); (skip); (intro t' h' tk' F' N'); (try dsimp only); (try k_fold))))
local macro_rules | `(tactic| walk_at "call ref") => `(tactic| (k_here; (with_reducible show wpAny _ _ (call (Value.ref 28) _) _ _ _); k_dflt (refine' Mine.use (Mine.cut_div_v _ _ (-3) 1 2 (-1) _ _ _ ?p1 ?p2 ?p3 ?p4 ?p5) ?k1 ?k2 ?k3 ?k4 ?k5 ?k6 ?kd ?ku ?_; (case k1 => k_asm); (case k2 => k_asm); (case k3 => k_asm); (case k4 => walk_at "my_news"); (case k5 => k_asm); (case k6 => first | exact rfl | assumption); (case p1 => decide); (case p2 => decide); (case p3 => decide); (case p4 => decide); (case p5 => decide); (case kd => ktr_room); (case ku => ktr_units); (skip); (intro t' h' tk' F' N'); (try dsimp only); (try k_fold))))
local macro_rules | `(tactic| walk_at "call ref") => `(tactic| (k_here; (with_reducible show wpAny _ _ (call (Value.ref 63) _) _ _ _); k_dflt (refine' Mine.use (Mine.root_v _ _ 0 0 _ ?p1 ?p2 ?p3) ?k1 ?k2 ?k3 ?k4 ?k5 ?k6 ?kd ?ku ?_; (case k1 => k_asm); (case k2 => k_asm); (case k3 => k_asm); (case k4 => walk_at "my_news"); (case k5 => k_asm); (case k6 => first | exact rfl | assumption); (case p1 => decide); (case p2 => decide); (case p3 => (unfold Mine.IsRoot; decide)); (case kd => ktr_room); (case ku => ktr_units); (skip); (intro t' h' tk' F' N'); (try dsimp only); (try k_fold))))
local macro_rules | `(tactic| walk_at "call ref") => `(tactic| (k_here; (with_reducible show wpAny _ _ (call (Value.ref 63) _) _ _ _); k_dflt (refine' Mine.use (Mine.root_v _ _ 15 3 _ ?p1 ?p2 ?p3) ?k1 ?k2 ?k3 ?k4 ?k5 ?k6 ?kd ?ku ?_; (case k1 => k_asm); (case k2 => k_asm); (case k3 => k_asm); (case k4 => walk_at "my_news"); (case k5 => k_asm); (case k6 => first | exact rfl | assumption); (case p1 => decide); (case p2 => decide); (case p3 => (unfold Mine.IsRoot; decide)); (case kd => ktr_room); (case ku => ktr_units); (skip); (intro t' h' tk' F' N'); (try dsimp only); (try k_fold))))
local macro_rules | `(tactic| walk_at "call ref") => `(tactic| (k_here; (with_reducible show wpAny _ _ (call (Value.ref 70) _) _ _ _); k_dflt (refine' Mine.use (Mine.unit_00 _ _ _ _) ?k1 ?k2 ?k3 ?k4 ?k5 ?k6 ?kd ?ku ?_; (case k1 => k_asm); (case k2 => k_asm); (case k3 => k_asm); (case k4 => walk_at "my_news"); (case k5 => k_asm); (case k6 => first | exact rfl | assumption); (case kd => ktr_room); (case ku => ktr_units); (skip); (intro D' tp' tq' h' tk' F' N' l1); (try dsimp only); (try k_fold))))
namespace Mine
def LoopJ (S C1 C2 : Addr) (x : PySem.Str) (stored : List PySem.Str) (m₀ m : PySem.Str → Option Value) (nx : Led) : Prop :=
  ∃ (a b : Int) (ta tb : Tok) (n : Nat) (o1 o2 : Obj) (v1 v2 : Option Value), nx = [(S, src a b ta tb n), (C1, o1), (C2, o2)] ∧ (0 ≤ a ∧ 0 ≤ b ∧ b < 2147483647) ∧ (o1.data = .cell v1 ∧ o2.data = .cell v2) ∧ ∀ z, z ≠ x → stored.contains z = false → m z = m₀ z
theorem LoopJ.end {S C1 C2 : Addr} {x : PySem.Str} {stored : List PySem.Str} {m₀ m : PySem.Str → Option Value} {h₀ h' : Heap} {L : Addr} {own news' : Led} {s₁ : Shared} {tk : Nat} {a b : Int} {ta tb : Tok} {n : Nat} {o1 o2 : Obj} {v1 v2 : Option Value}
    (F : Fr h₀ L h' m) (N : News h₀ L h' news') (hS : (S, src a b ta tb n) ∈ news') (h1 : (C1, o1) ∈ news') (h2 : (C2, o2) ∈ news') (ho : ∀ p ∈ own, p ∈ news') (ha : 0 ≤ a ∧ 0 ≤ b ∧ b < 2147483647) (d1 : o1.data = .cell v1) (d2 : o2.data = .cell v2) (hm : ∀ z, z ≠ x → stored.contains z = false → m z = m₀ z) :
    InvEndN h₀ L (LoopJ S C1 C2 x stored m₀) own [S, C1, C2] s₁ { s₁ with heap := h', toks := tk } := by
  refine InvEndN.intro F N (nx := [(S, src a b ta tb n), (C1, o1), (C2, o2)]) ⟨a, b, ta, tb, n, o1, o2, v1, v2, rfl, ha, ⟨d1, d2⟩, hm⟩ rfl (fun p hp => ?_) ho
  rcases hp with _ | ⟨_, _ | ⟨_, _ | ⟨_, hp⟩⟩⟩
  · exact hS
  · exact h1
  · exact h2
  · exact nomatch hp
section
variable {prog : Program} {w : World} {A : Around} {E : Value → Shared → Prop} {s : Shared} {env : Env} {h₀ : Heap} {x : PySem.Str} {body : List Stmt} {Q : Flow → Shared → Prop}
theorem my_loop (stored : List PySem.Str) {r S C1 C2 : Addr} {t₀ u₀ v₀ : Tok} {m₀ : PySem.Str → Option Value} {news : Led} {a b : Int} {ta tb : Tok} {n : Nat} {o1 o2 : Obj} {v1 v2 : Option Value}
    (hh : A.handled = none) (hr : IsRange s.heap r 0 8 1 t₀ u₀ v₀) (F : Fr h₀ env.locals s.heap m₀) (N : News h₀ env.locals s.heap news)
    (hS : (S, src a b ta tb n) ∈ news) (h1 : (C1, o1) ∈ news) (h2 : (C2, o2) ∈ news) (d1 : o1.data = .cell v1) (d2 : o2.data = .cell v2) (ha : 0 ≤ a ∧ 0 ≤ b ∧ b < 2147483647)
    (turn : ∀ (a b : Int) (ta tb : Tok) (n : Nat) (o1 o2 : Obj) (v1 v2 : Option Value) (k : Int) (t : Tok) (u : PySem.Str → Option Value) (h : Heap) (tk : Nat) (own : Led),
      0 ≤ a → 0 ≤ b → b < 2147483647 → o1.data = .cell v1 → o2.data = .cell v2 → (∀ p ∈ own, p.1 ≠ S) → (∀ p ∈ own, p.1 ≠ C1) → (∀ p ∈ own, p.1 ≠ C2) →
      Fr h₀ env.locals h (fun y => if y = x then some (.int k t) else if stored.contains y then u y else m₀ y) → News h₀ env.locals h ((S, src a b ta tb n) :: (C1, o1) :: (C2, o2) :: own) →
      wpAny (model prog w) A (execs body env) (InvPostN h₀ env.locals (LoopJ S C1 C2 x stored m₀) own [S, C1, C2] { s with heap := h, toks := tk } Q) E { s with heap := h, toks := tk })
    (done : ∀ (u : PySem.Str → Option Value) h tk, Fr h₀ env.locals h u → Q .next { s with heap := h, toks := tk }) :
    wpAny (model prog w) A (pyIter (.ref r)) (fun it s₂ => LoopAtV prog w A h₀ env x body Q E it s₂) E s := by
  have N₃ : News h₀ env.locals s.heap [(S, src a b ta tb n), (C1, o1), (C2, o2)] := fun p hp => by
    rcases hp with _ | ⟨_, _ | ⟨_, _ | ⟨_, hp⟩⟩⟩
    · exact N _ hS
    · exact N _ h1
    · exact N _ h2
    · exact nomatch hp
  refine iter_rangeS (n := 8) (fun (_ : Unit) m nx => LoopJ S C1 C2 x stored m₀ m nx) (fun _ _ => ()) () hh hr (by decide) (by decide) F N₃ ⟨a, b, ta, tb, n, o1, o2, v1, v2, rfl, ha, ⟨d1, d2⟩, fun _ _ _ => rfl⟩ ?_ ?_
  · rintro k t _ m₁ nx h tk own _ hoff ⟨a, b, ta, tb, n, o1, o2, v1, v2, rfl, ha, ⟨d1, d2⟩, hm⟩ F₁ N₁
    have e : (fun y => if y = x then some (Value.int k t) else m₁ y) = fun y => if y = x then some (Value.int k t) else if stored.contains y then m₁ y else m₀ y := by
      funext y
      by_cases h1 : y = x
      · rw [if_pos h1, if_pos h1]
      · rw [if_neg h1, if_neg h1]
        cases h2 : stored.contains y with
        | true => rw [if_pos rfl]
        | false => rw [if_neg (by decide)]; exact hm y h1 h2
    rw [e] at F₁
    exact turn a b ta tb n o1 o2 v1 v2 k t m₁ h tk own ha.1 ha.2.1 ha.2.2 d1 d2 (fun p hp => hoff p hp S (.head _)) (fun p hp => hoff p hp C1 (.tail _ (.head _))) (fun p hp => hoff p hp C2 (.tail _ (.tail _ (.head _)))) F₁ N₁
  · rintro m₁ nx h tk _ F₁ _
    exact done m₁ h tk F₁
end
end Mine
namespace Mine
theorem lt2 {x y : Addr × Obj} {r : Led} {S : Addr} (h : ∀ p ∈ x :: y :: r, p.1 < S) : @LT.lt Nat _ x.1 S ∧ @LT.lt Nat _ y.1 S := ⟨h _ (.head _), h _ (.tail _ (.head _))⟩
theorem own3 {C1 C2 S : Addr} {o1 o2 : Obj} {own : Led} (h : C1 < S ∧ C2 < S) (ho : ∀ p ∈ own, p.1 ≠ S) : ∀ p ∈ (C1, o1) :: (C2, o2) :: own, p.1 ≠ S := by
  intro p hp
  rcases hp with _ | ⟨_, _ | ⟨_, hp⟩⟩
  · exact Nat.ne_of_lt h.1
  · exact Nat.ne_of_lt h.2
  · exact ho p hp
theorem own2 {C1 C2 S : Addr} {o1 o2 : Obj} (h : C1 < S ∧ C2 < S) : ∀ p ∈ [(C1, o1), (C2, o2)], p.1 ≠ S := by
  intro p hp
  rcases hp with _ | ⟨_, _ | ⟨_, hp⟩⟩
  · exact Nat.ne_of_lt h.1
  · exact Nat.ne_of_lt h.2
  · exact nomatch hp
theorem pool_nn {c : Int} {P : Prop} [Decidable P] : 0 ≤ (if -1 - c > c then -1 - c else c) * (if P then 1 else 0) := by
  refine Int.mul_nonneg ?_ ?_ <;> split <;> omega
abbrev RetP (l : Addr) (news : Led) (h₀ : Heap) (L : Addr) (m : PySem.Str → Option Value) (s : Shared) (Q : Value → Shared → Prop) : Prop :=
  ∃ (vs : List Value) (ns : List Int), h₀.IsList l vs.toArray ∧ IntsAre vs ns ∧ ns.length ≤ 63 ∧ ∀ (S : Addr) (a b : Int) (ta tb : Tok) (n : Nat) (h' : Heap) (tk' : Nat), 0 ≤ a → 0 ≤ b → b < 2147483647 → Fr h₀ L h' m → News h₀ L h' ((S, src a b ta tb n) :: news) → (∀ p ∈ news, p.1 < S) → Q (.ref S) { s with heap := h', toks := tk' }
theorem endP {a b : Int} {h₀ h' : Heap} {L S : Addr} {m : PySem.Str → Option Value} {news : Led} {s : Shared} {Q : Value → Shared → Prop} {ta tb : Tok} {n tk' : Nat}
    (hret : ∀ (S : Addr) (a b : Int) (ta tb : Tok) (n : Nat) (h' : Heap) (tk' : Nat), 0 ≤ a → 0 ≤ b → b < 2147483647 → Fr h₀ L h' m → News h₀ L h' ((S, src a b ta tb n) :: news) → (∀ p ∈ news, p.1 < S) → Q (.ref S) { s with heap := h', toks := tk' })
    (F : Fr h₀ L h' m) (N : News h₀ L h' ((S, src a b ta tb n) :: news)) (l : ∀ p ∈ news, p.1 < S) (h1 : 0 ≤ a) (h2 : 0 ≤ b) (h3 : b < 2147483647) : Q (.ref S) { s with heap := h', toks := tk' } :=
  hret S a b ta tb n h' tk' h1 h2 h3 F N l
theorem lift_list {g h₀ h' : Heap} {L L' l : Addr} {m m' : PySem.Str → Option Value} {arr : Array Value} (_ : Fr g L' h' m') (F : Fr h₀ L g m) (hl : h₀.IsList l arr) : g.IsList l arr := hl.at fun o e => F.keep l o e
set_option maxHeartbeats 4000000 in
theorem pool_c (w : World) (news : Led) (l : Addr) :
   CC w 1 91 [.ref l] news (fun h₀ L m s Q => RetP l news h₀ L m s Q) := by
  unfold CC
  intros
  rename RetP _ _ _ _ _ _ _ => hP
  obtain ⟨vs, ns, hl9, hi9, hn9, hret⟩ := hP
  k_dflt (walk_at "my_enter")
  rename Fr _ _ _ _ => hF1
  have hl2 := lift_list hF1 (by assumption) hl9
  w_strict k_steps
  all_goals (first | (refine' endP (by assumption) ?F ?N ?l9 ?u1 ?u2 ?u3; (case F => k_asm); (case N => k_asm); (case l9 => assumption); (case u1 => exact pool_nn); (case u2 => assumption); (case u3 => assumption)))
end Mine
local macro_rules | `(tactic| walk_at "call ref") => `(tactic| (k_here; (with_reducible show wpAny _ _ (call (Value.ref 91) _) _ _ _); k_dflt (refine' Mine.use (Mine.pool_c _ _ _) ?k1 ?k2 ?k3 ?k4 ?k5 ?k6 ?kd ?ku ?_; (case k1 => k_asm); (case k2 => k_asm); (case k3 => k_asm); (case k4 => walk_at "my_news"); (case k5 => k_asm); (case k6 => first | exact rfl | assumption); (case kd => ktr_room); (case ku => ktr_units); ((refine' ⟨_, _, ?q1, ?q2, ?q3, ?_⟩); (case q1 => assumption); (case q2 => assumption); (case q3 => omega)); (intro S' a' b' ta' tb' n' h' tk' ha' hb0' hb1' F' N' l1); (have l2' := Mine.lt2 l1); (dsimp only at l2'); (try dsimp only); (try k_fold))))
namespace Mine
section
open PySem.Calls PySem.Spec
variable {prog : Program} {w : World} {A : Around} {E : Value → Shared → Prop} {s : Shared}
theorem nx_item {it t : Addr} {i : Nat} {items : Array Value} {x : Value} {Q : Value → Shared → Prop} (hit : s.heap.IsTupleIter it t i) (ht : s.heap.IsTuple t items) (hx : items[i]? = some x)
    (hQ : ∀ h', h'.IsTupleIter it t (i + 1) → Heap.SameBut it s.heap h' → Q x { s with heap := h' }) : wpAny (model prog w) A (Builtin.SmallTypes.nextOf (.ref it)) Q E s := by
  obtain ⟨o, ho, hc, hd⟩ := id hit
  obtain ⟨ot, hot, _, nt, hdt⟩ := ht
  unfold Builtin.SmallTypes.nextOf
  refine wpAny_bind (wpAny_callSpecial?_slot (name := Str.ofString "__next__") hit.typeIs PySem.F.slot_tuple_iterator_next (wpAny_call_entry PySem.F.slot_tuple_iterator_next hit.typeIs PySem.F.entry_tuple_iterator_next ?_ (PySem.F.args_tuple_iterator_next_1 _)))
  show wpAny _ _ (field (.ref it) 0 >>= _) _ _ s
  refine wpAny_bind (wpAny_field ho hd (x := .ref t) rfl ?_)
  show wpAny _ _ (if (Value.ref t == Value.none) = true then _ else _) _ _ s
  rw [if_neg (show ¬ ((Value.ref t == Value.none) = true) from Bool.false_ne_true)]
  show wpAny _ _ (field (.ref it) 1 >>= _) _ _ s
  refine wpAny_bind (wpAny_field ho hd (x := .int i 0) rfl ?_)
  show wpAny _ _ (seqItems? (.ref t) >>= _) _ _ s
  refine wpAny_bind (wpAny_seqItems hot hdt ?_)
  simp only [Int.toNat_natCast, hx]
  refine wpAny_bind (wpAny_setField ho hd (by simp) (wpAny_pure ⟨x, rfl, wpAny_pure (hQ _ ⟨_, Heap.get?_update_self _ ho (Obj.isFreed_of_fields (Obj.data_mapFields hd _)), (Obj.cls_mapFields ..).trans hc, ?_⟩ (Heap.SameBut.update ..))⟩))
  rw [Obj.data_mapFields hd]; simp [rawInt]
theorem nx_end {it t : Addr} {i : Nat} {items : Array Value} {Q : Value → Shared → Prop} (hh : A.handled = none) (hit : s.heap.IsTupleIter it t i) (ht : s.heap.IsTuple t items) (hx : items[i]? = none)
    (hE : ∀ h' e, Heap.ExtBut it s.heap h' → (∃ o, h'.get? e = some o ∧ o.cls = .type "StopIteration") → E (.ref e) { s with heap := h' }) : wpAny (model prog w) A (Builtin.SmallTypes.nextOf (.ref it)) Q E s := by
  obtain ⟨o, ho, hc, hd⟩ := id hit
  obtain ⟨ot, hot, _, nt, hdt⟩ := ht
  unfold Builtin.SmallTypes.nextOf
  refine wpAny_bind (wpAny_callSpecial?_slot (name := Str.ofString "__next__") hit.typeIs PySem.F.slot_tuple_iterator_next (wpAny_call_entry PySem.F.slot_tuple_iterator_next hit.typeIs PySem.F.entry_tuple_iterator_next ?_ (PySem.F.args_tuple_iterator_next_1 _)))
  show wpAny _ _ (field (.ref it) 0 >>= _) _ _ s
  refine wpAny_bind (wpAny_field ho hd (x := .ref t) rfl ?_)
  show wpAny _ _ (if (Value.ref t == Value.none) = true then _ else _) _ _ s
  rw [if_neg (show ¬ ((Value.ref t == Value.none) = true) from Bool.false_ne_true)]
  show wpAny _ _ (field (.ref it) 1 >>= _) _ _ s
  refine wpAny_bind (wpAny_field ho hd (x := .int i 0) rfl ?_)
  show wpAny _ _ (seqItems? (.ref t) >>= _) _ _ s
  refine wpAny_bind (wpAny_seqItems hot hdt ?_)
  simp only [Int.toNat_natCast, hx]
  refine wpAny_bind (wpAny_rule (wpAny_bind (wpAny_setField ho hd (by simp) ?_)))
  show wpAny _ _ (newExc (.type "StopIteration") [] >>= _) _ _ _
  refine wpAny_bind ?_
  simp only [newExc, newTuple]
  refine wpAny_bind (wpAny_newObj_type ?_ (by size_fits))
  refine wpAny_bind (m := firstArgMember _ _) (wpAny_of_eq (a := Value.none) (by first | rfl | (simp only [firstArgMember]; rfl)) ?_)
  refine wpAny_newObj_type ?_ (by size_fits)
  simp only [raiseNew]
  refine wpAny_bind (wpAny_handled ?_)
  first | rw [show A.in1.handled = none from hh] | rw [hh]
  refine wpAny_bind (wpAny_pure (wpAny_throw ?_))
  exact hE _ _ (((Heap.SameBut.update ..).extBut.push _).push _) ⟨_, Heap.get?_push_size _ rfl, rfl⟩

structure ZS (z TI TO i1 i2 t1 t2 : Addr) (xs ys : Array Value) (k : Nat) (f0 : Value) (h : Heap) : Prop where
  fz : IsZip h z TI TO f0
  fti : IsPair h TI (.ref i1) (.ref i2)
  fto : ∃ a b, IsPair h TO a b
  f1 : h.IsTupleIter i1 t1 k
  f2 : h.IsTupleIter i2 t2 k
  g1 : h.IsTuple t1 xs
  g2 : h.IsTuple t2 ys
variable {z TI TO i1 i2 t1 t2 : Addr} {xs ys : Array Value} {k : Nat} {f0 : Value} {h h' : Heap}
theorem ZS.frame (x : ZS z TI TO i1 i2 t1 t2 xs ys k f0 h) (kz : ∀ o, h.get? z = some o → h'.get? z = some o) (kti : ∀ o, h.get? TI = some o → h'.get? TI = some o) (kto : ∀ o, h.get? TO = some o → h'.get? TO = some o) (k1 : ∀ o, h.get? i1 = some o → h'.get? i1 = some o) (k2 : ∀ o, h.get? i2 = some o → h'.get? i2 = some o) (k3 : ∀ o, h.get? t1 = some o → h'.get? t1 = some o) (k4 : ∀ o, h.get? t2 = some o → h'.get? t2 = some o) : ZS z TI TO i1 i2 t1 t2 xs ys k f0 h' :=
  ⟨kz _ x.fz, kti _ x.fti, let ⟨a, b, e⟩ := x.fto; ⟨a, b, kto _ e⟩, x.f1.at k1, x.f2.at k2, x.g1.at k3, x.g2.at k4⟩

theorem zs_next {x y : Value} {Q : Option Value → Shared → Prop} (D : ZipApart z TI TO i1 i2 t1 t2) (hz : ZS z TI TO i1 i2 t1 t2 xs ys k .none s.heap) (hx : xs[k]? = some x) (hy : ys[k]? = some y)
    (hQ : ∀ h', ZS z TI TO i1 i2 t1 t2 xs ys (k + 1) (rawInt s.heap.objs.size) h' → IsPair h' s.heap.objs.size x y → h'.objs.size = s.heap.objs.size + 1 →
      (∀ c o, c ≠ z → c ≠ TO → c ≠ i1 → c ≠ i2 → s.heap.get? c = some o → h'.get? c = some o) → Q (some (.ref s.heap.objs.size)) { s with heap := h' }) : wpAny (model prog w) A (pyNext (.ref z)) Q E s := by
  have hT : s.TypeIs (.ref z) "zip" := ⟨_, hz.fz, rfl⟩
  unfold pyNext
  refine wpAny_bind (wpAny_attempt (wpAny_callSpecial?_slot (name := Str.ofString "__next__") hT PySem.F.slot_zip_next (wpAny_call_entry PySem.F.slot_zip_next hT PySem.F.entry_zip_next ?_ (PySem.F.args_zip_next_1 _))))
  obtain ⟨az, aTI, ⟨a, b, aTO⟩, a1, a2, b1, b2⟩ := hz
  show wpAny _ _ (field (.ref z) 2 >>= _) _ _ _
  refine wpAny_bind (wpAny_field az rfl (x := .bool false) rfl ?_)
  show wpAny _ _ (field (.ref z) 3 >>= _) _ _ _
  refine wpAny_bind (wpAny_field az rfl (x := .ref TI) rfl ?_)
  refine wpAny_bind (wpAny_seqItems aTI rfl ?_)
  show wpAny _ _ (Builtin.SmallTypes.ownedTupleIsFree (.ref z) >>= _) _ _ _
  refine wpAny_bind ?_
  unfold Builtin.SmallTypes.ownedTupleIsFree
  refine wpAny_bind (wpAny_field az rfl (x := .none) rfl (wpAny_pure ?_))
  simp only [if_true]
  refine wpAny_bind (wpAny_rule ?_)
  refine wpAny_bind (wpAny_field az rfl (x := .ref TO) rfl ?_)
  refine wpAny_bind (wpAny_setField_rec az (by simp) fun h₁ az₁ s₁ => ?_)
  replace az₁ : IsZip h₁ z TI TO .ellipsis := az₁
  refine wpAny_bind ?_
  simp only [List.zipIdx_cons, List.zipIdx_nil, List.forIn_cons, List.forIn_nil]
  refine wpAny_bind (wpAny_bind (wpAny_onRaise ?_))
  show wpAny _ _ (Builtin.SmallTypes.nextOf (.ref i1) >>= _) _ _ _
  refine wpAny_bind (nx_item (a1.extBut s₁.extBut D.i1z) (b1.extBut s₁.extBut D.l1z) hx fun h₂ a1₂ s₂ => wpAny_pure ?_)
  have aTO₂ : IsPair h₂ TO a b := s₂.extBut _ _ D.TOi1 (s₁.extBut _ _ D.TOz aTO)
  refine wpAny_bind (wpAny_seqItems aTO₂ rfl ?_)
  refine wpAny_bind (wpAny_updateSeq_pair aTO₂ fun h₃ aTO₃ s₃ => ?_)
  replace aTO₃ : IsPair h₃ TO x b := aTO₃
  refine wpAny_bind (wpAny_letGo (wpAny_pure ?_))
  refine wpAny_bind (wpAny_bind (wpAny_onRaise ?_))
  show wpAny _ _ (Builtin.SmallTypes.nextOf (.ref i2) >>= _) _ _ _
  refine wpAny_bind (nx_item (((a2.extBut s₁.extBut D.i2z).extBut s₂.extBut D.i12.symm).extBut s₃.extBut D.TOi2.symm)
    (((b2.extBut s₁.extBut D.l2z).extBut s₂.extBut D.l2i1).extBut s₃.extBut D.l2TO) hy fun h₄ a2₄ s₄ => wpAny_pure ?_)
  have aTO₄ : IsPair h₄ TO x b := s₄.extBut _ _ D.TOi2 aTO₃
  refine wpAny_bind (wpAny_seqItems aTO₄ rfl ?_)
  refine wpAny_bind (wpAny_updateSeq_pair aTO₄ fun h₅ aTO₅ s₅ => ?_)
  replace aTO₅ : IsPair h₅ TO x y := aTO₅
  refine wpAny_bind (wpAny_letGo (wpAny_pure (wpAny_pure ?_)))
  refine wpAny_bind (wpAny_seqItems aTO₅ rfl ?_)
  refine wpAny_bind (wpAny_newTuple ?_)
  have hsz : h₅.objs.size = s.heap.objs.size := by rw [s₅.1, s₄.1, s₃.1, s₂.1, s₁.1]
  have az₅ : IsZip h₅ z TI TO .ellipsis := s₅.extBut _ _ D.TOz.symm (s₄.extBut _ _ D.i2z.symm (s₃.extBut _ _ D.TOz.symm (s₂.extBut _ _ D.i1z.symm az₁)))
  have hk₅ : ∀ c o, c ≠ z → c ≠ TO → c ≠ i1 → c ≠ i2 → s.heap.get? c = some o → h₅.get? c = some o := fun c o c1 c2 c3 c4 e =>
    s₅.extBut _ _ c2 (s₄.extBut _ _ c4 (s₃.extBut _ _ c2 (s₂.extBut _ _ c3 (s₁.extBut _ _ c1 e))))
  have a1₅ : h₅.IsTupleIter i1 t1 (k + 1) := ((a1₂.extBut s₃.extBut D.TOi1.symm).extBut s₄.extBut D.i12).extBut s₅.extBut D.TOi1.symm
  have a2₅ : h₅.IsTupleIter i2 t2 (k + 1) := a2₄.extBut s₅.extBut D.TOi2.symm
  have hzlt : z < h₅.objs.size := Heap.lt_size az₅
  show wpAny _ _ (Builtin.SmallTypes.ownedTupleHandOut (.ref z) (.ref h₅.objs.size) >>= _) _ _ _
  refine wpAny_bind ?_
  unfold Builtin.SmallTypes.ownedTupleHandOut
  have az₆ : IsZip (h₅.push { cls := .type "tuple", data := .seq #[x, y] }) z TI TO .ellipsis := Heap.get?_push_of_some _ az₅
  refine wpAny_bind (wpAny_setField_rec az₆ (by simp) fun h₇ az₇ s₇ => ?_)
  replace az₇ : IsZip h₇ z TI TO (rawInt h₅.objs.size) := az₇
  refine wpAny_setField_rec az₇ (by simp) fun h₈ az₈ s₈ => ?_
  replace az₈ : IsZip h₈ z TI TO (rawInt h₅.objs.size) := az₈
  have up : ∀ c o, c ≠ z → h₅.get? c = some o → h₈.get? c = some o := fun c o c1 e => s₈.extBut _ _ c1 (s₇.extBut _ _ c1 (Heap.get?_push_of_some _ e))
  have hT₈ : IsPair h₈ h₅.objs.size x y := s₈.extBut _ _ (Nat.ne_of_gt hzlt) (s₇.extBut _ _ (Nat.ne_of_gt hzlt) (Heap.get?_push_size _ rfl))
  have z8 : h₈.objs.size = h₅.objs.size + 1 := by rw [s₈.1, s₇.1, Heap.size_push]
  have all : ∀ c o, c ≠ z → c ≠ TO → c ≠ i1 → c ≠ i2 → s.heap.get? c = some o → h₈.get? c = some o := fun c o c1 c2 c3 c4 e => up c o c1 (hk₅ c o c1 c2 c3 c4 e)
  rw [hsz] at az₈ hT₈ z8
  refine wpAny_pure ⟨_, rfl, wpAny_pure ?_⟩
  show Q (some (.ref h₅.objs.size)) _
  rw [hsz]
  exact hQ h₈ ⟨az₈, all _ _ D.TIz D.TITO D.TIi1 D.TIi2 aTI, ⟨_, _, up _ _ D.TOz aTO₅⟩, a1₅.at fun o e => up _ o D.i1z e, a2₅.at fun o e => up _ o D.i2z e,
    b1.at fun o e => all _ o D.l1z D.l1TO D.l1i1 D.l1i2 e, b2.at fun o e => all _ o D.l2z D.l2TO D.l2i1 D.l2i2 e⟩ hT₈ z8 all

theorem zs_end {Q : Option Value → Shared → Prop} (hh : A.handled = none) (D : ZipApart z TI TO i1 i2 t1 t2) (hz : ZS z TI TO i1 i2 t1 t2 xs ys k .none s.heap) (hx : xs[k]? = none)
    (hQ : ∀ h', (∀ c o, c ≠ z → c ≠ i1 → s.heap.get? c = some o → h'.get? c = some o) → Q none { s with heap := h' }) : wpAny (model prog w) A (pyNext (.ref z)) Q E s := by
  have hT : s.TypeIs (.ref z) "zip" := ⟨_, hz.fz, rfl⟩
  unfold pyNext
  refine wpAny_bind (wpAny_attempt (wpAny_callSpecial?_slot (name := Str.ofString "__next__") hT PySem.F.slot_zip_next (wpAny_call_entry PySem.F.slot_zip_next hT PySem.F.entry_zip_next ?_ (PySem.F.args_zip_next_1 _))))
  obtain ⟨az, aTI, ⟨a, b, aTO⟩, a1, a2, b1, b2⟩ := hz
  show wpAny _ _ (field (.ref z) 2 >>= _) _ _ _
  refine wpAny_bind (wpAny_field az rfl (x := .bool false) rfl ?_)
  show wpAny _ _ (field (.ref z) 3 >>= _) _ _ _
  refine wpAny_bind (wpAny_field az rfl (x := .ref TI) rfl ?_)
  refine wpAny_bind (wpAny_seqItems aTI rfl ?_)
  show wpAny _ _ (Builtin.SmallTypes.ownedTupleIsFree (.ref z) >>= _) _ _ _
  refine wpAny_bind ?_
  unfold Builtin.SmallTypes.ownedTupleIsFree
  refine wpAny_bind (wpAny_field az rfl (x := .none) rfl (wpAny_pure ?_))
  simp only [if_true]
  refine wpAny_bind (wpAny_rule ?_)
  refine wpAny_bind (wpAny_field az rfl (x := .ref TO) rfl ?_)
  refine wpAny_bind (wpAny_setField_rec az (by simp) fun h₁ az₁ s₁ => ?_)
  replace az₁ : IsZip h₁ z TI TO .ellipsis := az₁
  refine wpAny_bind ?_
  simp only [List.zipIdx_cons, List.zipIdx_nil, List.forIn_cons, List.forIn_nil]
  refine wpAny_bind (wpAny_bind (wpAny_onRaise ?_))
  show wpAny _ _ (Builtin.SmallTypes.nextOf (.ref i1) >>= _) _ _ _
  refine wpAny_bind (nx_end hh (a1.extBut s₁.extBut D.i1z) (b1.extBut s₁.extBut D.l1z) hx fun h₂ e s₂ he => ?_)
  obtain ⟨oe, hoe, hce⟩ := he
  have az₂ : IsZip h₂ z TI TO .ellipsis := s₂ _ _ D.i1z.symm az₁
  have hez : e ≠ z := fun q => by subst q; rw [az₂] at hoe; cases hoe; simp at hce
  refine wpAny_setField_rec az₂ (by simp) fun h₃ _ s₃ => ?_
  refine wpAny_bind (wpAny_isInstance (T := "StopIteration") (b := true) ⟨oe, s₃.extBut _ _ hez hoe, hce⟩ isSubtype_stop ?_)
  exact wpAny_pure (hQ _ fun c o c1 c3 q => s₃.extBut _ _ c1 (s₂ _ _ c3 (s₁.extBut _ _ c1 q)))

abbrev zt1 (h : Heap) (l1 : Addr) : Heap := h.push { cls := .type "tuple_iterator", data := .fields #[.ref l1, .int 0 0] }
abbrev zt2 (h : Heap) (l1 l2 : Addr) : Heap := (zt1 h l1).push { cls := .type "tuple_iterator", data := .fields #[.ref l2, .int 0 0] }
abbrev zt3 (h : Heap) (l1 l2 : Addr) : Heap := (zt2 h l1 l2).push { cls := .type "tuple", data := .seq #[.ref h.objs.size, .ref (zt1 h l1).objs.size] }
abbrev zt4 (h : Heap) (l1 l2 : Addr) : Heap := (zt3 h l1 l2).push { cls := .type "tuple", data := .seq #[.none, .none] }
abbrev zt5 (h : Heap) (l1 l2 : Addr) : Heap := (zt4 h l1 l2).push { cls := .type "zip", data := .fields #[.none, .bool false, .bool false, .ref (zt2 h l1 l2).objs.size, .ref (zt3 h l1 l2).objs.size] }
theorem meets_zipT (l1 l2 : Addr) (xs ys : Array Value) :
    Meets (Builtin.«zip.__new__» ⟨[.type "zip", .ref l1, .ref l2], []⟩) (fun _ R s => s.heap.IsTuple l1 xs ∧ s.heap.IsTuple l2 ys ∧ R (.ok (.ret (.ref (zt4 s.heap l1 l2).objs.size))) { s with heap := zt5 s.heap l1 l2 }) :=
  .of_wp fun prog w A R s h => by
    obtain ⟨hp, g, d, tk, os⟩ := s; obtain ⟨hl1, hl2, h⟩ := h
    have hsub := sub_zip
    have hL1 : Heap.IsTuple (Shared.heap ⟨hp, g, d, tk, os⟩) l1 xs := hl1
    have hL2 : Heap.IsTuple (Shared.heap ⟨hp.push { cls := .type "tuple_iterator", data := .fields #[.ref l1, .int 0 0] }, g, d, tk, os⟩) l2 ys := Heap.IsTuple.push hl2 _
    wp_walk using wpAny_pyIter_tuple hL1, wpAny_pyIter_tuple hL2
    exact ⟨_, rfl, h⟩
theorem zs_call {l1 l2 : Addr} {Q : Value → Shared → Prop} (hl1 : s.heap.IsTuple l1 xs) (hl2 : s.heap.IsTuple l2 ys)
    (h : ∀ (a b c d e : Addr) (h' : Heap), a = s.heap.objs.size → b = a + 1 → c = a + 2 → d = a + 3 → e = a + 4 → ZS e c d a b l1 l2 xs ys 0 .none h' → h'.objs.size = a + 5 → (∀ c o, s.heap.get? c = some o → h'.get? c = some o) → Q (.ref e) { s with heap := h' }) :
    wpAny (model prog w) A (call (.type "zip") [.ref l1, .ref l2]) Q E s := by
  refine callType_new PySem.F.called_zip (by decide) (PySem.F.typeCall_zip_2 _ _) (PySem.F.newCall_zip_2 _ _) (fun obj => PySem.F.args_object_init_3 obj _ _) PySem.F.entry_zip_new (meets_zipT l1 l2 xs ys) ⟨hl1, hl2, ?_⟩
  have e1 : (zt1 s.heap l1).objs.size = s.heap.objs.size + 1 := Heap.size_push ..
  have e2 : (zt2 s.heap l1 l2).objs.size = s.heap.objs.size + 2 := by rw [Heap.size_push, e1]
  have e3 : (zt3 s.heap l1 l2).objs.size = s.heap.objs.size + 3 := by rw [Heap.size_push, e2]
  have e4 : (zt4 s.heap l1 l2).objs.size = s.heap.objs.size + 4 := by rw [Heap.size_push, e3]
  have e5 : (zt5 s.heap l1 l2).objs.size = s.heap.objs.size + 5 := by rw [Heap.size_push, e4]
  have u1 : ∀ c o, (zt4 s.heap l1 l2).get? c = some o → (zt5 s.heap l1 l2).get? c = some o := fun c o x => Heap.get?_push_of_some _ x
  have u2 : ∀ c o, (zt3 s.heap l1 l2).get? c = some o → (zt5 s.heap l1 l2).get? c = some o := fun c o x => u1 c o (Heap.get?_push_of_some _ x)
  have u3 : ∀ c o, (zt2 s.heap l1 l2).get? c = some o → (zt5 s.heap l1 l2).get? c = some o := fun c o x => u2 c o (Heap.get?_push_of_some _ x)
  have u4 : ∀ c o, (zt1 s.heap l1).get? c = some o → (zt5 s.heap l1 l2).get? c = some o := fun c o x => u3 c o (Heap.get?_push_of_some _ x)
  have u5 : ∀ c o, s.heap.get? c = some o → (zt5 s.heap l1 l2).get? c = some o := fun c o x => u4 c o (Heap.get?_push_of_some _ x)
  have a5 : (zt5 s.heap l1 l2).get? (zt4 s.heap l1 l2).objs.size = some _ := Heap.get?_push_size _ rfl
  have a4 : (zt5 s.heap l1 l2).get? (zt3 s.heap l1 l2).objs.size = some _ := u1 _ _ (Heap.get?_push_size _ rfl)
  have a3 : (zt5 s.heap l1 l2).get? (zt2 s.heap l1 l2).objs.size = some _ := u2 _ _ (Heap.get?_push_size _ rfl)
  have a2 : (zt5 s.heap l1 l2).get? (zt1 s.heap l1).objs.size = some _ := u3 _ _ (Heap.get?_push_size _ rfl)
  have a1 : (zt5 s.heap l1 l2).get? s.heap.objs.size = some _ := u4 _ _ (Heap.get?_push_size _ rfl)
  show _ ∧ _
  rw [e2, e3, e4] at a5
  rw [e1, e2] at a3
  rw [e3] at a4
  rw [e1] at a2
  rw [e4]
  exact ⟨⟨_, a5, rfl⟩, h _ _ _ _ _ _ rfl rfl rfl rfl rfl ⟨a5, a3, ⟨_, _, a4⟩, ⟨_, a1, rfl, rfl⟩, ⟨_, a2, rfl, rfl⟩, hl1.at fun o => u5 _ o, hl2.at fun o => u5 _ o⟩ e5 u5⟩
end
end Mine
namespace Mine
def ZEnd (h₀ : Heap) (L : Addr) (m : PySem.Str → Option Value) (s₁ : Shared) (led : Led) (v : Value) (s' : Shared) : Prop := v = .bool true ∧ ∃ h' tk', s' = { s₁ with heap := h', toks := tk' } ∧ Fr h₀ L h' m ∧ News h₀ L h' led
theorem ZEnd.intro {h₀ h' : Heap} {L : Addr} {m : PySem.Str → Option Value} {s₁ : Shared} {led led' : Led} {tk : Nat} (F : Fr h₀ L h' m) (N : News h₀ L h' led') (sub : ∀ p ∈ led, p ∈ led') : ZEnd h₀ L m s₁ led (.bool true) { s₁ with heap := h', toks := tk } :=
  ⟨rfl, h', tk, rfl, F, fun p hp => N p (sub p hp)⟩
def ZTurn (prog : Program) (w : World) (A : Around) (h₀ : Heap) (L : Addr) (m : PySem.Str → Option Value) (env : Env) (elt : PySem.Expr) (x x₂ : PySem.Str) (scope : PySem.Scope) (cl : List (PySem.Str × Addr)) (s : Shared) (c1 c2 : Addr × Obj) (v₁ v₂ : Value) : Prop :=
  ∀ (C : Addr) (oC : Obj) (m₂ : PySem.Str → Option Value) (h : Heap) (tk : Nat) (own : Led) (E' : Value → Shared → Prop), LCg.NsObj oC m₂ → m₂ x = some v₁ → m₂ x₂ = some v₂ → Fr h₀ L h m → News h₀ L h ((C, oC) :: c1 :: c2 :: own) →
    wpAny (model prog w) A (eval elt (compEnvC scope cl C env)) (ZEnd h₀ L m { s with heap := h, toks := tk } ((C, oC) :: c1 :: c2 :: own)) E' { s with heap := h, toks := tk }
section
open PySem.Calls PySem.Spec PyProof.Rows.LCg
variable {prog : Program} {w : World} {A : Around} {E : Value → Shared → Prop} {s : Shared} {h₀ : Heap} {L : Addr} {m : PySem.Str → Option Value} {env : Env}
theorem zip_block {elt iter : PySem.Expr} {x x₂ : PySem.Str} {px px₂ tp : Pos} {kk : Nat} {scope : PySem.Scope} {cl : List (PySem.Str × Addr)} {pos : Pos} {s₂ : Shared} {z TI TO i1 i2 t1 t2 : Addr} {x0 x1 y0 y1 : Value} {c1 c2 : Addr × Obj} {ot1 ot2 : Obj} {news : Led}
    {RR : Value → Addr → Result → Shared → Prop}
    (Ap : ZipApart z TI TO i1 i2 t1 t2) (hz : ZS z TI TO i1 i2 t1 t2 #[x0, x1] #[y0, y1] 0 .none s₂.heap)
    (hcell : ∀ y ∈ scope.names, y.2 ≠ .cell) (hkind : scope.kind = .function) (hx : scope.names.lookup x = some .local) (hx₂ : scope.names.lookup x₂ = some .local) (hxx : ¬ x = x₂) (hh : A.handled = none)
    (F : Fr h₀ L s₂.heap m) (N : News h₀ L s₂.heap news)
    (nz : z ≠ L ∧ h₀.get? z = none) (nTI : TI ≠ L ∧ h₀.get? TI = none) (nTO : TO ≠ L ∧ h₀.get? TO = none) (n1 : i1 ≠ L ∧ h₀.get? i1 = none) (n2 : i2 ≠ L ∧ h₀.get? i2 = none)
    (off : ∀ p ∈ news, p.1 ≠ z ∧ p.1 ≠ TO ∧ p.1 ≠ i1 ∧ p.1 ≠ i2) (hm1 : (t1, ot1) ∈ news) (hm2 : (t2, ot2) ∈ news) (hc1 : c1 ∈ news) (hc2 : c2 ∈ news)
    (T0 : ZTurn prog w A h₀ L m env elt x x₂ scope cl s₂ c1 c2 x0 y0) (T1 : ZTurn prog w A h₀ L m env elt x x₂ scope cl s₂ c1 c2 x1 y1)
    (hRR : ∀ D C h tk m', Fr h₀ L h m → News h₀ L h ((D, lst [.bool true, .bool true]) :: news) → (∀ p ∈ news, p.1 < D) → h.Ns C m' → h₀.get? C = none → C ≠ L → C ≠ D → (∀ p ∈ news, p.1 ≠ C) → RR (.ref D) C (.ok .next) { s₂ with heap := h, toks := tk }) :
    wpAny (model prog w) A (newList []) (fun acc s₃ => wpAny (model prog w) A (newFunctionEnv scope env.globals cl [] env.qual none .none (some env)) (fun cenv s₄ =>
      codeAny (model prog w) A (.compStart (.ListComp elt [⟨.Tuple [.Name x px, .Name x₂ px₂] kk tp, iter, [], 0⟩] scope pos) 0 (.ref z) acc { cenv with scope := relabel scope env }) (RR acc cenv.locals) s₄) E s₃) E s₂ := by
  refine wpAny_newObj_type (wpAny_newFunctionEnv hcell (by intro y hy; simp at hy) (fun h₁ hns₁ hsb₁ => ?_) hkind)
  dsimp only at hns₁ hsb₁ ⊢
  generalize hH2 : s₂.heap.push { cls := .type "list", dict := none, data := .seq ([] : List Value).toArray } = H2 at hns₁ hsb₁ ⊢
  have hC : H2.objs.size = s₂.heap.objs.size + 1 := by rw [← hH2, Heap.size_push]
  generalize hCe : H2.objs.size = C at *
  generalize hDe : s₂.heap.objs.size = D at *
  have below : ∀ b o, s₂.heap.get? b = some o → b ≠ C ∧ b ≠ D := fun b o e => by
    have hb : b < D := hDe ▸ Heap.lt_size e
    exact ⟨by rw [hC]; exact Nat.ne_of_lt (Nat.lt_succ_of_lt hb), Nat.ne_of_lt hb⟩
  have hDC : D ≠ C := by rw [hC]; exact Nat.ne_of_lt (Nat.lt_succ_self _)
  have up2 : ∀ b o, s₂.heap.get? b = some o → H2.get? b = some o := fun b o e => hH2 ▸ Heap.get?_push_of_some _ e
  have hD2 : H2.get? D = some (lst []) := by rw [← hH2, ← hDe]; exact Heap.get?_push_size _ rfl
  have old : ∀ b o, s₂.heap.get? b = some o → h₁.get? b = some o := fun b o e => hsb₁.extBut b o (below b o e).1 (Heap.get?_push_of_some _ (up2 b o e))
  have hacc : h₁.get? D = some (lst []) := hsb₁.extBut _ _ hDC (Heap.get?_push_of_some _ hD2)
  have fresh : ∀ a, D ≤ a → h₀.get? a = none := fun a ha => by
    cases e : h₀.get? a with
    | none => rfl
    | some o' => exact absurd (Heap.lt_size (F.keep a o' e)) (Nat.not_lt.mpr (hDe ▸ ha))
  have hD₀ : h₀.get? D = none := fresh _ (Nat.le_refl _)
  have hC₀ : h₀.get? C = none := fresh _ (by rw [hC]; exact Nat.le_succ _)
  have hLlt : L < D := hDe ▸ F.ns.lt
  have hDL : D ≠ L := Nat.ne_of_gt hLlt
  have hCL : C ≠ L := by rw [hC]; exact Nat.ne_of_gt (Nat.lt_succ_of_lt hLlt)
  have hnl : ∀ p ∈ news, p.1 < D := fun p hp => hDe ▸ Heap.lt_size (N p hp).1
  have hnC : ∀ p ∈ news, p.1 ≠ C := fun p hp => (below _ _ (N p hp).1).1
  have bz : z ≠ C ∧ z ≠ D := below _ _ hz.fz
  have bTI : TI ≠ C ∧ TI ≠ D := below _ _ hz.fti
  have bTO : TO ≠ C ∧ TO ≠ D := by obtain ⟨a, b, e⟩ := hz.fto; exact below _ _ e
  have b1 : i1 ≠ C ∧ i1 ≠ D := by obtain ⟨_, e, _⟩ := hz.f1; exact below _ _ e
  have b2 : i2 ≠ C ∧ i2 ≠ D := by obtain ⟨_, e, _⟩ := hz.f2; exact below _ _ e
  have bt1 : t1 ≠ C ∧ t1 ≠ D := by obtain ⟨_, e, _⟩ := hz.g1; exact below _ _ e
  have bt2 : t2 ≠ C ∧ t2 ≠ D := by obtain ⟨_, e, _⟩ := hz.g2; exact below _ _ e
  have hz₁ : ZS z TI TO i1 i2 t1 t2 #[x0, x1] #[y0, y1] 0 .none h₁ := hz.frame (old _) (old _) (old _) (old _) (old _) (old _) (old _)
  have loop : ∀ s₃ : Shared, s₃ = { s₂ with heap := h₁, toks := s₂.toks + ([] : List (PySem.Str × Value)).length } →
      codeAny (model prog w) A (.compLoop (.ListComp elt [⟨.Tuple [.Name x px, .Name x₂ px₂] kk tp, iter, [], 0⟩] scope pos) 0 (.ref z) (.ref D) (compEnvC scope cl C env)) (RR (.ref D) C) s₃ := by
    rintro s₃ rfl
    refine kcp_loop (fun k s' => ∃ h' tk i m', s' = { s₂ with heap := h', toks := tk } ∧ i + k = 2 ∧ ZS z TI TO i1 i2 t1 t2 #[x0, x1] #[y0, y1] i .none h' ∧ Fr h₀ L h' m ∧ h'.Ns C m' ∧ News h₀ L h' ((D, lst (List.replicate i (.bool true))) :: news)) ?_ 2
      ⟨h₁, _, 0, _, rfl, rfl, hz₁, F.keeps old, hns₁, fun p hp => ?_⟩
    · rintro k s' ⟨h', tk, i, m', rfl, hi, hz', F', hn', N'⟩
      by_cases hlt : i < 2
      · obtain ⟨xi, yi, hxi, hyi, T⟩ : ∃ xi yi, (#[x0, x1] : Array Value)[i]? = some xi ∧ (#[y0, y1] : Array Value)[i]? = some yi ∧ ZTurn prog w A h₀ L m env elt x x₂ scope cl s₂ c1 c2 xi yi := by
          rcases (show i = 0 ∨ i = 1 by omega) with rfl | rfl
          · exact ⟨x0, y0, rfl, rfl, T0⟩
          · exact ⟨x1, y1, rfl, rfl, T1⟩
        refine zs_next Ap hz' hxi hyi fun h₂ hz₂ hp₂ hsz₂ hk₂ => ?_
        generalize hTe : h'.objs.size = T' at *
        have hTz : T' ≠ z := hTe ▸ Nat.ne_of_gt (Heap.lt_size hz'.fz)
        have hCT : C < T' := hTe ▸ hn'.lt
        refine wpAny_letOwnedTupleGo_zip hz₂.fz fun h₃ hz₃ hs₃ => ?_
        have hzz : ZS z TI TO i1 i2 t1 t2 #[x0, x1] #[y0, y1] (i + 1) .none h₃ := ⟨hz₃, hs₃.extBut _ _ Ap.TIz hz₂.fti, let ⟨a, b, e⟩ := hz₂.fto; ⟨a, b, hs₃.extBut _ _ Ap.TOz e⟩, hz₂.f1.extBut hs₃.extBut Ap.i1z, hz₂.f2.extBut hs₃.extBut Ap.i2z, hz₂.g1.extBut hs₃.extBut Ap.l1z, hz₂.g2.extBut hs₃.extBut Ap.l2z⟩
        have hT₃ : h₃.IsTuple T' #[xi, yi] := ⟨_, hs₃.extBut _ _ hTz hp₂, rfl, _, rfl⟩
        have up₃ : ∀ c o, c ≠ z → c ≠ TO → c ≠ i1 → c ≠ i2 → h'.get? c = some o → h₃.get? c = some o := fun c o c1 c2 c3 c4 e => hs₃.extBut _ _ c1 (hk₂ c o c1 c2 c3 c4 e)
        refine kcp_assign (env := compEnvC scope cl C env) hh hT₃ (lookup_relabel_local hx) (lookup_relabel_local hx₂) (by simp [compEnvC, relabel, hkind]) (hn'.at' fun o e => up₃ _ o bz.1.symm bTO.1.symm b1.1.symm b2.1.symm e) fun h₄ tk₄ hn₄ hs₄ => ?_
        have up : ∀ c o, c ≠ z → c ≠ TO → c ≠ i1 → c ≠ i2 → c ≠ C → h'.get? c = some o → h₄.get? c = some o := fun c o c1 c2 c3 c4 c5 e => hs₄ c o c5 (up₃ c o c1 c2 c3 c4 e)
        have hz₄ : ZS z TI TO i1 i2 t1 t2 #[x0, x1] #[y0, y1] (i + 1) .none h₄ := hzz.frame (fun o => hs₄ _ o bz.1) (fun o => hs₄ _ o bTI.1) (fun o => hs₄ _ o bTO.1) (fun o => hs₄ _ o b1.1) (fun o => hs₄ _ o b2.1) (fun o => hs₄ _ o bt1.1) (fun o => hs₄ _ o bt2.1)
        obtain ⟨oC, heC, hoC⟩ := ns_obj hn₄
        have ne₀ : ∀ {a c : Addr} {o : Obj}, h₀.get? a = none → h₀.get? c = some o → c ≠ a := fun e e' q => by rw [q, e] at e'; cases e'
        have F₄ : Fr h₀ L h₄ m := ⟨F'.ns.at' fun o e => up L o nz.1.symm nTO.1.symm n1.1.symm n2.1.symm hCL.symm e, fun c o e => up c o (ne₀ nz.2 e) (ne₀ nTO.2 e) (ne₀ n1.2 e) (ne₀ n2.2 e) (ne₀ hC₀ e) (F'.keep c o e), F'.above⟩
        obtain ⟨oz, ez, kz⟩ : ∃ oz : Obj, h₄.get? z = some oz ∧ ∀ g : Heap, g.get? z = some oz → IsZip g z TI TO .none := ⟨_, hz₄.fz, fun g e => e⟩
        obtain ⟨oTI, eTI, kTI⟩ : ∃ oz : Obj, h₄.get? TI = some oz ∧ ∀ g : Heap, g.get? TI = some oz → IsPair g TI (.ref i1) (.ref i2) := ⟨_, hz₄.fti, fun g e => e⟩
        obtain ⟨oTO, eTO, kTO⟩ : ∃ oz : Obj, h₄.get? TO = some oz ∧ ∀ g : Heap, g.get? TO = some oz → ∃ a b, IsPair g TO a b := by obtain ⟨a, b, e⟩ := hz₄.fto; exact ⟨_, e, fun g e => ⟨a, b, e⟩⟩
        obtain ⟨oi1, e1, k1⟩ : ∃ oz : Obj, h₄.get? i1 = some oz ∧ ∀ g : Heap, g.get? i1 = some oz → g.IsTupleIter i1 t1 (i + 1) := by obtain ⟨o, e, r⟩ := hz₄.f1; exact ⟨o, e, fun g e' => ⟨o, e', r⟩⟩
        obtain ⟨oi2, e2, k2⟩ : ∃ oz : Obj, h₄.get? i2 = some oz ∧ ∀ g : Heap, g.get? i2 = some oz → g.IsTupleIter i2 t2 (i + 1) := by obtain ⟨o, e, r⟩ := hz₄.f2; exact ⟨o, e, fun g e' => ⟨o, e', r⟩⟩
        have keepN : ∀ p ∈ news, h₄.get? p.1 = some p.2 := fun p hp => up _ _ (off p hp).1 (off p hp).2.1 (off p hp).2.2.1 (off p hp).2.2.2 (hnC p hp) (N' p (List.mem_cons_of_mem _ hp)).1
        have hD₄ : h₄.get? D = some (lst (List.replicate i (.bool true))) := up _ _ bz.2.symm bTO.2.symm b1.2.symm b2.2.symm hDC (N' _ List.mem_cons_self).1
        have N₄ : News h₀ L h₄ ((C, oC) :: c1 :: c2 :: (z, oz) :: (TI, oTI) :: (TO, oTO) :: (i1, oi1) :: (i2, oi2) :: (D, lst (List.replicate i (.bool true))) :: news) := by
          intro p hp
          simp only [List.mem_cons] at hp
          rcases hp with rfl | rfl | rfl | rfl | rfl | rfl | rfl | rfl | rfl | hp
          · exact ⟨heC, hCL, hC₀⟩
          · exact ⟨keepN _ hc1, (N _ hc1).2⟩
          · exact ⟨keepN _ hc2, (N _ hc2).2⟩
          · exact ⟨ez, nz⟩
          · exact ⟨eTI, nTI⟩
          · exact ⟨eTO, nTO⟩
          · exact ⟨e1, n1⟩
          · exact ⟨e2, n2⟩
          · exact ⟨hD₄, hDL, hD₀⟩
          · exact ⟨keepN p hp, (N p hp).2⟩
        refine wpAny_mono (T C oC _ h₄ tk₄ _ _ hoC (by simp [hxx]) (by simp) F₄ N₄) (fun v s₅ h₅ => ?_) fun _ _ e => e
        obtain ⟨rfl, h₅, tk₅, rfl, F₅, N₅⟩ := h₅
        have g : ∀ p ∈ (z, oz) :: (TI, oTI) :: (TO, oTO) :: (i1, oi1) :: (i2, oi2) :: (D, lst (List.replicate i (.bool true))) :: news, h₅.get? p.1 = some p.2 := fun p hp => (N₅ p (List.mem_cons_of_mem _ (List.mem_cons_of_mem _ (List.mem_cons_of_mem _ hp)))).1
        have gD : h₅.get? D = some (lst (List.replicate i (.bool true))) := g (D, _) (by simp)
        have gN : ∀ p ∈ news, h₅.get? p.1 = some p.2 := fun p hp => g p (by simp [hp])
        have hz₅ : ZS z TI TO i1 i2 t1 t2 #[x0, x1] #[y0, y1] (i + 1) .none h₅ := by
          refine ⟨kz _ (g (z, oz) (by simp)), kTI _ (g (TI, oTI) (by simp)), kTO _ (g (TO, oTO) (by simp)), k1 _ (g (i1, oi1) (by simp)), k2 _ (g (i2, oi2) (by simp)), ?_, ?_⟩
          · exact hz₄.g1.at fun o e => by rw [keepN _ hm1] at e; cases e; exact gN _ hm1
          · exact hz₄.g2.at fun o e => by rw [keepN _ hm2] at e; cases e; exact gN _ hm2
        refine append_at (hsz := by show (List.replicate i (Value.bool true)).toArray.size ≤ sizeLine; rw [List.size_toArray, List.length_replicate]; exact Nat.le_trans (Nat.le_of_lt hlt) (by decide)) (n := (List.replicate i (Value.bool true)).length) gD fun h₆ hs₆ hD₆ => ?_
        refine ⟨k - 1, by omega, h₆, tk₅, i + 1, _, rfl, by omega, hz₅.frame (fun o => hs₆.extBut _ o bz.2) (fun o => hs₆.extBut _ o bTI.2) (fun o => hs₆.extBut _ o bTO.2) (fun o => hs₆.extBut _ o b1.2) (fun o => hs₆.extBut _ o b2.2) (fun o => hs₆.extBut _ o bt1.2) (fun o => hs₆.extBut _ o bt2.2), F₅.change hs₆ hDL hD₀, (hoC.ns (N₅ _ List.mem_cons_self).1).sameBut hs₆ hDC.symm, fun p hp => ?_⟩
        rcases List.mem_cons.mp hp with rfl | hp
        · refine ⟨hD₆.trans (congrArg some ((lst_snoc _ _).trans ?_)), hDL, hD₀⟩
          rw [List.replicate_succ']
        · exact ⟨hs₆.extBut _ _ (Nat.ne_of_lt (hnl p hp)) (gN p hp), (N p hp).2⟩
      · obtain rfl : i = 2 := by omega
        refine zs_end hh Ap hz' rfl fun h₂ hk₂ => ?_
        have ne₀ : ∀ {a c : Addr} {o : Obj}, h₀.get? a = none → h₀.get? c = some o → c ≠ a := fun e e' q => by rw [q, e] at e'; cases e'
        refine hRR D C h₂ tk _ ⟨F'.ns.at' fun o e => hk₂ L o nz.1.symm n1.1.symm e, fun c o e => hk₂ c o (ne₀ nz.2 e) (ne₀ n1.2 e) (F'.keep c o e), F'.above⟩ (fun p hp => ?_) hnl (hn'.at' fun o e => hk₂ _ o bz.1.symm b1.1.symm e) hC₀ hCL hDC.symm hnC
        rcases List.mem_cons.mp hp with rfl | hp
        · exact ⟨hk₂ _ _ bz.2.symm b1.2.symm (N' _ List.mem_cons_self).1, hDL, hD₀⟩
        · exact ⟨hk₂ _ _ (off p hp).1 (off p hp).2.2.1 (N' p (List.mem_cons_of_mem _ hp)).1, (N p hp).2⟩
    · rcases List.mem_cons.mp hp with rfl | hp
      · exact ⟨hacc, hDL, hD₀⟩
      · exact ⟨old _ _ (N p hp).1, (N p hp).2⟩
  exact codeAny_compStart_list (loop _ rfl) (wpAny_pyIter_zip hz₁.fz (loop _ rfl))
end
end Mine
namespace Mine
section
open PySem.Calls PySem.Spec PyProof.Rows.LCg
variable {prog : Program} {w : World} {A : Around} {E : Value → Shared → Prop} {s : Shared} {h₀ : Heap} {L : Addr} {m : PySem.Str → Option Value} {env : Env}
def ZPost (prog : Program) (w : World) (A : Around) (E : Value → Shared → Prop) (env : Env) (elt iter : PySem.Expr) (x x₂ : PySem.Str) (px px₂ tp : Pos) (kk : Nat) (scope : PySem.Scope) (cl : List (PySem.Str × Addr)) (pos : Pos) (Q : Value → Shared → Prop) (xv : Value) (s₁ : Shared) : Prop :=
  wpAny (model prog w) A (pyIter xv) (fun it s₂ => wpAny (model prog w) A (newList []) (fun acc s₃ => wpAny (model prog w) A (newFunctionEnv scope env.globals cl [] env.qual none .none (some env)) (fun cenv s₄ =>
    codeAny (model prog w) A (.compStart (.ListComp elt [⟨.Tuple [.Name x px, .Name x₂ px₂] kk tp, iter, [], 0⟩] scope pos) 0 it acc { cenv with scope := relabel scope env }) (compPost (model prog w) A E none Q acc cenv.locals) s₄) E s₃) E s₂) E s₁
theorem zip_listcomp {elt iter : PySem.Expr} {x x₂ : PySem.Str} {px px₂ tp : Pos} {kk : Nat} {scope : PySem.Scope} {cl : List (PySem.Str × Addr)} {pos : Pos} {Q : Value → Shared → Prop}
    (hclos : closureFor scope env = pure cl) (hkind : scope.kind = .function) (hnames : ∀ y ∈ scope.names, y.2 = .local → scope.names.lookup y.1 = some .local)
    (h : wpAny (model prog w) A (eval iter env) (ZPost prog w A E env elt iter x x₂ px px₂ tp kk scope cl pos Q) E s)
    (hs : ∀ x, foldedSetIterable iter env x = pure x := by intro _; rfl) :
    wpAny (model prog w) A (eval (.ListComp elt [⟨.Tuple [.Name x px, .Name x₂ px₂] kk tp, iter, [], 0⟩] scope pos) env) Q E s := by
  rw [eval_ListComp]
  exact wpAny_comprehension_free (use := none) rfl hs hclos hkind hnames h
theorem zip_comp {elt iter : PySem.Expr} {x x₂ : PySem.Str} {px px₂ tp : Pos} {kk : Nat} {scope : PySem.Scope} {cl : List (PySem.Str × Addr)} {pos : Pos} {Q : Value → Shared → Prop} {t1 t2 : Addr} {x0 x1 y0 y1 : Value} {C1 C2 : Addr} {o1 o2 ot1 ot2 : Obj} {va vb : Value} {k1 k2 : Nat} {news : Led}
    (hcell : ∀ y ∈ scope.names, y.2 ≠ .cell) (hkind : scope.kind = .function) (hx : scope.names.lookup x = some .local) (hx₂ : scope.names.lookup x₂ = some .local) (hxx : ¬ x = x₂) (hh : A.handled = none)
    (F : Fr h₀ L s.heap m) (N : News h₀ L s.heap news) (hm1 : (t1, ot1) ∈ news) (hk1 : ot1.cls = .type "tuple") (hd1 : ot1.data = .seq #[x0, x1] k1) (hm2 : (t2, ot2) ∈ news) (hk2 : ot2.cls = .type "tuple") (hd2 : ot2.data = .seq #[y0, y1] k2)
    (_ : o1.data = .cell (some va)) (_ : o2.data = .cell (some vb)) (hc1 : (C1, o1) ∈ news) (hc2 : (C2, o2) ∈ news)
    (T0 : ∀ g, ZTurn prog w A h₀ L m env elt x x₂ scope cl { s with heap := g } (C1, o1) (C2, o2) x0 y0) (T1 : ∀ g, ZTurn prog w A h₀ L m env elt x x₂ scope cl { s with heap := g } (C1, o1) (C2, o2) x1 y1)
    (done : ∀ D h tk, Fr h₀ L h m → News h₀ L h ((D, lst [.bool true, .bool true]) :: news) → (∀ p ∈ news, p.1 < D) → Q (.ref D) { s with heap := h, toks := tk }) :
    wpAny (model prog w) A (call (.type "zip") [.ref t1, .ref t2]) (ZPost prog w A E env elt iter x x₂ px px₂ tp kk scope cl pos Q) E s := by
  have g1 : s.heap.IsTuple t1 #[x0, x1] := ⟨ot1, (N _ hm1).1, hk1, k1, hd1⟩
  have g2 : s.heap.IsTuple t2 #[y0, y1] := ⟨ot2, (N _ hm2).1, hk2, k2, hd2⟩
  refine zs_call g1 g2 fun a b c d e h' ha hb hc hd he hz hsz hk => ?_
  have lt1 : t1 < a := ha ▸ Heap.lt_size (N _ hm1).1
  have lt2 : t2 < a := ha ▸ Heap.lt_size (N _ hm2).1
  have ltL : L < a := ha ▸ F.ns.lt
  have new : ∀ q : Addr, a ≤ q → q ≠ L ∧ h₀.get? q = none := fun q hq => ⟨Nat.ne_of_gt (Nat.lt_of_lt_of_le ltL hq), by
    cases e : h₀.get? q with
    | none => rfl
    | some o => exact absurd (Heap.lt_size (F.keep _ _ e)) (Nat.not_lt.mpr (ha ▸ hq))⟩
  have Ap : ZipApart e c d a b t1 t2 := by subst hb hc hd he; exact PySem.W.ktu_apart a t1 t2 lt1 lt2
  have le1 : a ≤ b := by rw [hb]; exact Nat.le_add_right _ _
  have le2 : a ≤ c := by rw [hc]; exact Nat.le_add_right _ _
  have le3 : a ≤ d := by rw [hd]; exact Nat.le_add_right _ _
  have le4 : a ≤ e := by rw [he]; exact Nat.le_add_right _ _
  have F' : Fr h₀ L h' m := F.keeps hk
  have N' : News h₀ L h' news := fun p hp => ⟨hk _ _ (N p hp).1, (N p hp).2⟩
  unfold ZPost
  refine wpAny_pyIter_zip hz.fz ?_
  refine zip_block (m := m) Ap hz hcell hkind hx hx₂ hxx hh F' N' (new _ le4) (new _ le2) (new _ le3) (new _ (Nat.le_refl _)) (new _ le1) (fun p hp => ?_) hm1 hm2 hc1 hc2 (T0 h') (T1 h') ?_
  · have lp : p.1 < a := ha ▸ Heap.lt_size (N p hp).1
    exact ⟨Nat.ne_of_lt (Nat.lt_of_lt_of_le lp le4), Nat.ne_of_lt (Nat.lt_of_lt_of_le lp le3), Nat.ne_of_lt lp, Nat.ne_of_lt (Nat.lt_of_lt_of_le lp le1)⟩
  · intro D C g tk m' F₂ N₂ hl hn hC₀ hCL hCD hnC
    refine ⟨m', hn, fun h'' hs'' => done D h'' tk (F₂.change hs'' hCL hC₀) (fun p hp => ?_) hl⟩
    refine ⟨hs''.extBut _ _ ?_ (N₂ p hp).1, (N₂ p hp).2⟩
    rcases List.mem_cons.mp hp with rfl | hp
    · exact hCD.symm
    · exact hnC p hp
end
end Mine
theorem Mine.sub_swap {x y : Addr × Obj} {r : Mine.Led} : ∀ p ∈ x :: y :: r, p ∈ y :: x :: r := by
  intro p hp
  rcases hp with _ | ⟨_, _ | ⟨_, hp⟩⟩
  · exact .tail _ (.head _)
  · exact .head _
  · exact .tail _ (.tail _ hp)
local macro_rules | `(tactic| walk_at "eval ListComp") => `(tactic| (k_here; k_dflt (refine Mine.zip_listcomp (by with_unfolding_all rfl) (by rfl) (by decide) ?_)))
local macro_rules | `(tactic| walk_at "my_left") => `(tactic| rotate_left)
local macro_rules | `(tactic| walk_at "call type:zip") => `(tactic| (k_here; (with_reducible show wpAny _ _ (call (Value.type _) [Value.ref _, Value.ref _]) (Mine.ZPost _ _ _ _ _ _ _ _ _ _ _ _ _ _ _ _ _) _ _); (rename Fr _ _ _ _ => lF9); (rename News _ _ _ _ => lN9); (rename Obj.data _ = Data.cell _ => hd9); (revert hd9); (rename Obj.data _ = Data.cell _ => hd8); (intro hd9); (with_unfolding_all refine' Mine.zip_comp (by decide) (by rfl) (by rfl) (by rfl) (by decide) (by rfl) lF9 lN9 ?k1 ?q1 ?q2 ?k2 ?q3 ?q4 hd8 hd9 ?k3 ?k4 ?_ ?_ ?_); k_dflt ((case k1 => k_memK); (case k2 => k_memK); (case q1 => exact rfl); (case q2 => exact rfl); (case q3 => exact rfl); (case q4 => exact rfl); (case k3 => k_memK); (case k4 => k_memK)); (all_goals (try clear lF9 lN9)); k_dflt (intro g' C' oC' m' h' tk' own' E' hC' hx' hy' F' N'); (try dsimp only); (rotate_left); k_dflt (intro g' C' oC' m' h' tk' own' E' hC' hx' hy' F' N'); (try dsimp only); (rotate_left); (intro D' h' tk' F' N' l1'); (try k_lt l1'); (try dsimp only); (rotate_left)))
local macro_rules | `(tactic| walk_at "ZEnd") => `(tactic| (k_dflt (refine' Mine.ZEnd.intro ?F ?N ?S; (case F => assumption); (case N => assumption); (case S => first | exact Mine.sub_swap | walk_at "my_ends"))))
namespace Mine
theorem hm5 {z x c r p w q : PySem.Str} {v1 v2 v3 v4 u rest : Option Value} (h1 : z ≠ x) (h2 : [c, r, p, w, q].contains z = false) :
    (if z = p then v1 else if z = r then v2 else if z = c then v3 else if z = x then v4 else if [c, r, p, w, q].contains z = true then u else rest) = rest := by
  have h3 : z ≠ p ∧ z ≠ r ∧ z ≠ c := by
    simp only [List.contains_cons, Bool.or_eq_false_iff, beq_eq_false_iff_ne] at h2
    exact ⟨h2.2.2.1, h2.2.1, h2.1⟩
  rw [if_neg h3.1, if_neg h3.2.1, if_neg h3.2.2, if_neg h1, if_neg (by rw [h2]; decide)]
end Mine
local macro_rules | `(tactic| walk_at "call ref") => `(tactic| (k_here; (with_reducible show wpAny _ _ (call (Value.ref 63) _) _ _ _); k_dflt (refine' Mine.use (Mine.root_c _ _ _ _ ?p1 ?p2) ?k1 ?k2 ?k3 ?k4 ?k5 ?k6 ?kd ?ku ?_; (case k1 => k_asm); (case k2 => k_asm); (case k3 => k_asm); (case k4 => walk_at "my_news"); (case k5 => k_asm); (case k6 => first | exact rfl | assumption); (case p1 => walk_at "my_ne"); (case p2 => exact Mine.ib_up (by bits_by_make) (by decide)); (case kd => ktr_room); (case ku => ktr_units); (skip); (intro r' t' h' tk' hR' F' N'); (have hR0' := hR'.1); (have hR1' := hR'.2.1); (have hR2' := hR'.2.2); (try dsimp only); (try k_fold))))
local macro_rules | `(tactic| walk_at "call ref") => `(tactic| (k_here; (with_reducible show wpAny _ _ (call (Value.ref 63) _) _ _ _); k_dflt (refine' Mine.use (Mine.root_v _ _ 0 0 _ ?p1 ?p2 ?p3) ?k1 ?k2 ?k3 ?k4 ?k5 ?k6 ?kd ?ku ?_; (case k1 => k_asm); (case k2 => k_asm); (case k3 => k_asm); (case k4 => walk_at "my_news"); (case k5 => k_asm); (case k6 => first | exact rfl | assumption); (case p1 => decide); (case p2 => decide); (case p3 => (unfold Mine.IsRoot; decide)); (case kd => ktr_room); (case ku => ktr_units); (skip); (intro t' h' tk' F' N'); (try dsimp only); (try k_fold))))
local macro_rules | `(tactic| walk_at "call ref") => `(tactic| (k_here; (with_reducible show wpAny _ _ (call (Value.ref 63) _) _ _ _); k_dflt (refine' Mine.use (Mine.root_v _ _ 15 3 _ ?p1 ?p2 ?p3) ?k1 ?k2 ?k3 ?k4 ?k5 ?k6 ?kd ?ku ?_; (case k1 => k_asm); (case k2 => k_asm); (case k3 => k_asm); (case k4 => walk_at "my_news"); (case k5 => k_asm); (case k6 => first | exact rfl | assumption); (case p1 => decide); (case p2 => decide); (case p3 => (unfold Mine.IsRoot; decide)); (case kd => ktr_room); (case ku => ktr_units); (skip); (intro t' h' tk' F' N'); (try dsimp only); (try k_fold))))
local macro_rules | `(tactic| walk_at "my_own") => `(tactic| first | exact Mine.own3 (by assumption) (by assumption) | exact Mine.own2 (by assumption) | fail)
local macro_rules | `(tactic| walk_at "InvEndN") => `(tactic| k_dflt (refine' Mine.LoopJ.end ?F ?N ?S ?c1 ?c2 ?ho ?ha ?d1 ?d2 ?hm; (case F => assumption); (case N => assumption); (case S => k_memK); (case c1 => k_memK); (case c2 => k_memK); (case ho => (intro p hp; k_ownIn)); (case ha => exact ⟨by assumption, by assumption, by assumption⟩); (case d1 => assumption); (case d2 => assumption); (case hm => (intro z h1 h2; exact Mine.hm5 h1 h2))))
local macro_rules | `(tactic| walk_at "pyIter ref") => `(tactic| ((with_reducible show wpAny _ _ (pyIter (Value.ref _)) (fun it s₂ => LoopAtV _ _ _ _ _ _ _ _ _ it s₂) _ _); (rename Fr _ _ _ _ => lF9); (rename News _ _ _ _ => lN9); (rename IsRange _ _ _ _ _ _ _ _ => rg9); (rename Obj.data _ = Data.cell _ => hd9); (revert hd9); (rename Obj.data _ = Data.cell _ => hd8); (intro hd9); (with_unfolding_all refine' Mine.my_loop ["c", "root", "parts", "way", "piece"] (by rfl) rg9 lF9 lN9 ?kS ?k1 ?k2 hd9 hd8 ?ha ?_ ?_); k_dflt ((case kS => k_memK); (case k1 => k_memK); (case k2 => k_memK); (case ha => exact ⟨by assumption, by assumption, by assumption⟩)); (all_goals (try clear lF9 lN9)); (rotate_left); (intro u' h' tk' F'; (try dsimp only)); (rotate_left); (intro a' b' ta' tb' n' o1' o2' v1' v2' k' t' u' h' tk' own' ha' hb0' hb1' d1' d2' hS' hc1' hc2' F' N'); (try dsimp only); (try k_fold)))
namespace Mine
set_option maxHeartbeats 8000000 in
theorem holds : PySem.Challenge.rw_on0217_01.Holds := hd (by w_strict (k_go0; (all_goals try k_fold); k_steps))
end Mine
theorem PySem.Challenge.cw_on0217_01_holds : PySem.Challenge.rw_on0217_01.Holds :=
  Mine.holds
