import PyProof.Rows.All
import Wide.All
import OpenK.AllK
import Wide.FinOn
import PySem.Challenge.RW_sa0001_01
open PySem PySem.W PyProof.Rows
set_option Elab.async false
local macro_rules | `(tactic| walk_at $s:str) => `(tactic| k_extra $s)
section
namespace Mine
set_option maxRecDepth 100000 in
set_option maxHeartbeats 8000000 in
open_top hd for PySem.Challenge.rw_sa0001_01
end Mine
end
section
namespace Mine
/-- what a call made from a frame of a def must know -/
abbrev CallAt (w : World) (mean : ExcName → Option Value) (mg mb : Str → Option Value) (f : Addr) (vs : List Value) (depth : Nat)
    (Ret : Heap → Addr → (Str → Option Value) → List (Addr × Obj) → Shared → (Value → Shared → Prop) → (Value → Shared → Prop) → Prop) : Prop :=
  ∀ (dp un : Nat) (gd : Option (List Code)) (cn : Str) (cs : Scope) (a : Addr) (ccd : Value) (cl : List (Str × Addr)) (outer : List Env) (A₀ : Around) (base h₀ : Heap) (L : Addr) (m : Str → Option Value) (news : List (Addr × Obj)) (s : Shared) (Q E : Value → Shared → Prop),
    Below A₀ base outer h₀ → Fr h₀ L s.heap m → (Mine.hd.heap_39 w.params).In h₀ → News h₀ L s.heap news → Top Mine.hd.view_39 (looseW Mine.hd.view_39 [Str.ofString "GREATEST"]) mean mg mb h₀ → cs.kind = .function →
    dp + depth < recursionLimit → un + 8 * depth < cLine → Ret h₀ L m news s Q E →
      wpAny (model PySem.Challenge.rw_sa0001_01.row.prog w) (ktrTop dp un gd cn cs L a ccd cl outer) (call (.ref f) vs) Q E s

abbrev RetInt (x : Int) (h₀ : Heap) (L : Addr) (m : Str → Option Value) (news : List (Addr × Obj)) (s : Shared) (Q _E : Value → Shared → Prop) : Prop :=
  ∀ (t : Tok) (h' : Heap) (tk' : Nat), Fr h₀ L h' m → News h₀ L h' news → Q (.int x t) { s with heap := h', toks := tk' }

abbrev RetBool (x : Bool) (h₀ : Heap) (L : Addr) (m : Str → Option Value) (news : List (Addr × Obj)) (s : Shared) (Q _E : Value → Shared → Prop) : Prop :=
  ∀ (h' : Heap) (tk' : Nat), Fr h₀ L h' m → News h₀ L h' news → Q (.bool x) { s with heap := h', toks := tk' }
theorem callAt_use {w : World} {mean : ExcName → Option Value} {mg mb : Str → Option Value} {f : Addr} {vs : List Value} {depth : Nat}
    {Ret : Heap → Addr → (Str → Option Value) → List (Addr × Obj) → Shared → (Value → Shared → Prop) → (Value → Shared → Prop) → Prop}
    {dp un : Nat} {gd : Option (List Code)} {cn : Str} {cs : Scope} {a : Addr} {ccd : Value} {cl : List (Str × Addr)} {outer : List Env} {A₀ : Around} {base h₀ : Heap} {L : Addr} {m : Str → Option Value} {news : List (Addr × Obj)} {s : Shared} {Q E : Value → Shared → Prop}
    (C : CallAt w mean mg mb f vs depth Ret)
    (B : Below A₀ base outer h₀) (F : Fr h₀ L s.heap m) (X : (Mine.hd.heap_39 w.params).In h₀) (N : News h₀ L s.heap news) (T : Top Mine.hd.view_39 (looseW Mine.hd.view_39 [Str.ofString "GREATEST"]) mean mg mb h₀) (hk : cs.kind = .function)
    (hd : dp + depth < recursionLimit) (hu : un + 8 * depth < cLine) (ret : Ret h₀ L m news s Q E) :
    wpAny (model PySem.Challenge.rw_sa0001_01.row.prog w) (ktrTop dp un gd cn cs L a ccd cl outer) (call (.ref f) vs) Q E s :=
  C dp un gd cn cs a ccd cl outer A₀ base h₀ L m news s Q E B F X N T hk hd hu ret

theorem roomK {dp d a b R : Nat} (h : dp + d < R) (k : Nat.ble (a + b) d = true) : dp + a + b < R := by
  have := Nat.le_of_ble_eq_true k
  omega
theorem unitsK {un c a b R : Nat} (h : un + 8 * c < R) (k : Nat.ble (a + 8 * b) (8 * c) = true) : un + a + 8 * b < R := by
  have := Nat.le_of_ble_eq_true k
  omega
/-- a bound on both parts of a fraction: at most 10 ^ k -/
@[irreducible] def Sz (k : Nat) (r : Rat) : Prop := r.num.natAbs ≤ 10 ^ k ∧ r.den ≤ 10 ^ k
theorem Sz.def {k : Nat} {r : Rat} : Sz k r ↔ (r.num.natAbs ≤ 10 ^ k ∧ r.den ≤ 10 ^ k) := by unfold Sz; exact Iff.rfl

def ratObj (r : Rat) (t1 t2 : Tok) : Obj := { cls := .type "tuple", data := .seq #[.int r.num t1, .int (r.den : Int) t2] }

abbrev RetRat (r : Rat) (h₀ : Heap) (L : Addr) (m : Str → Option Value) (news : List (Addr × Obj)) (s : Shared) (Q _E : Value → Shared → Prop) : Prop :=
  ∀ (b : Addr) (t1 t2 : Tok) (h' : Heap) (tk' : Nat), Fr h₀ L h' m → News h₀ L h' ((b, ratObj r t1 t2) :: news) → (∀ p ∈ news, p.1 < b) → Q (.ref b) { s with heap := h', toks := tk' }
end Mine
end
section
namespace Mine
abbrev abMap (a b : Int) (ta tb : Tok) (r : Str → Option Value) : Str → Option Value :=
  fun z => if z = Str.ofString "b" then some (.int b tb) else if z = Str.ofString "a" then some (.int a ta) else r z
def DivJ (g : Nat) (news : List (Addr × Obj)) (n : Nat) (m₁ : Str → Option Value) (news₁ : List (Addr × Obj)) : Prop :=
  ∃ (a b : Int) (ta tb : Tok) (r : Str → Option Value), 0 ≤ a ∧ 0 ≤ b ∧ Int.gcd a b = g ∧ n = b.toNat ∧ news₁ = news ∧ m₁ = abMap a b ta tb r
/-- where the turn of the divisor's loop must end -/
def DivTurn (h₀ : Heap) (L : Addr) (s : Shared) (g : Nat) (news : List (Addr × Obj)) (n : Nat) (f : Flow) (s₃ : Shared) : Prop := WhileStep h₀ L s (DivJ g news) n f s₃
theorem gcd_step {a b : Int} (ha : 0 ≤ a) (hb : 0 < b) : Int.gcd b (a.fmod b) = Int.gcd a b := by
  rw [Int.fmod_eq_emod_of_nonneg _ (by omega)]
  obtain ⟨m, rfl⟩ := Int.eq_ofNat_of_zero_le ha
  obtain ⟨n, rfl⟩ := Int.eq_ofNat_of_zero_le (Int.le_of_lt hb)
  show Nat.gcd n (m % n) = Nat.gcd m n
  rw [Nat.gcd_comm n, ← Nat.gcd_rec, Nat.gcd_comm]
theorem ab_swap {p q : Option Value} {r : Str → Option Value} : (fun y => if y = Str.ofString "a" then p else if y = Str.ofString "b" then q else r y) = fun y => if y = Str.ofString "b" then q else if y = Str.ofString "a" then p else r y := by
  funext y
  by_cases h1 : y = Str.ofString "a"
  · have h2 : y ≠ Str.ofString "b" := by rw [h1]; decide
    rw [if_pos h1, if_neg h2, if_pos h1]
  · rw [if_neg h1, if_neg h1]
theorem div_turn {h₀ h' : Heap} {L : Addr} {s : Shared} {g n : Nat} {news : List (Addr × Obj)} {q : Addr × Obj} {a b : Int} {ta tb : Tok} {r : Str → Option Value} {tk : Nat}
    (F : Fr h₀ L h' (fun y => if y = Str.ofString "a" then some (.int b ta) else if y = Str.ofString "b" then some (.int (a.fmod b) tb) else r y)) (N : News h₀ L h' (q :: news)) (ha : 0 ≤ a) (hb : 0 < b) (hg : Int.gcd a b = g) (hn : n = b.toNat) :
    DivTurn h₀ L s g news n .next { s with heap := h', toks := tk } := by
  rw [ab_swap] at F
  have h1 : 0 ≤ a.fmod b := Int.fmod_nonneg_of_pos _ hb
  have h2 : a.fmod b < b := Int.fmod_lt_of_pos _ hb
  exact WhileStep.intro F (fun p hp => N p (.tail _ hp)) (n' := (a.fmod b).toNat) (by omega) ⟨b, a.fmod b, ta, tb, r, by omega, h1, (gcd_step ha hb).trans hg, rfl, rfl, rfl⟩
theorem div_out {a b x y : Int} (ha : 0 ≤ a) (hb : 0 ≤ b) (hnb : ¬ 0 < b) (hg : a.gcd b = (if x < 0 then -x else x).gcd (if y < 0 then -y else y)) : a = Int.gcd x y := by
  obtain rfl : b = 0 := by omega
  have h1 : ∀ z : Int, (if z < 0 then -z else z) = (z.natAbs : Int) := fun z => by split <;> omega
  rw [h1, h1, Int.gcd_zero_right] at hg
  have h2 : Int.gcd (x.natAbs : Int) (y.natAbs : Int) = Int.gcd x y := by simp [Int.gcd]
  omega
section
variable {prog : Program} {w : World} {A : Around} {E : Value → Shared → Prop} {Q : Flow → Shared → Prop} {s : Shared} {env : Env} {h₀ : Heap} {L : Addr}
theorem div_while {test : PySem.Expr} {body : List Stmt} {pos : Pos} {a b : Int} {ta tb : Tok} {r : Str → Option Value} {news : List (Addr × Obj)}
    (F : Fr h₀ L s.heap (abMap a b ta tb r)) (N : News h₀ L s.heap news) (ha : 0 ≤ a) (hb : 0 ≤ b)
    (turn : ∀ n a' b' ta' tb' r' h₁ tk₁, Fr h₀ L h₁ (abMap a' b' ta' tb' r') → News h₀ L h₁ news → 0 ≤ a' → 0 ≤ b' → Int.gcd a' b' = Int.gcd a b → n = b'.toNat →
      wpAny (model prog w) A (isTrue test env (eval test env)) (fun q s₂ =>
        if q = true then wpAny (model prog w) A (execs body env) (DivTurn h₀ L s (Int.gcd a b) news n) E s₂ else Q .next s₂) E { s with heap := h₁, toks := tk₁ })
    (hE : PassesOwn (model prog w) A env E) :
    wpAny (model prog w) A (exec (.While test body [] pos) env) Q E s := by
  refine While_inv (DivJ (Int.gcd a b) news) F N ⟨a, b, ta, tb, r, ha, hb, rfl, rfl, rfl, rfl⟩ ?_ hE
  rintro n m₁ news₁ h₁ tk₁ F₁ N₁ ⟨a', b', ta', tb', r', h1, h2, h3, h4, h5, h6⟩
  subst h5 h6
  exact turn n a' b' ta' tb' r' h₁ tk₁ F₁ N₁ h1 h2 h3 h4
end
variable {w : World} {mean : ExcName → Option Value} {mg mb : Str → Option Value}
section
theorem rows_D2_1 : True := by
  k_with_none
  k_with "exec While Compare cons nil" => (k_here; k_dflt (refine' div_while ?w1 ?w2 ?w3 ?w4 ?_ ?w5; (case w1 => assumption); (case w2 => assumption); (case w3 => (split <;> omega)); (case w4 => (split <;> omega)); (case w5 => passes_own)); intro n9 a9 b9 ta9 tb9 r9 h9 tk9 F9 N9 ha9 hb9 hg9 hn9)
  exact trivial
set_option maxRecDepth 100000 in
set_option maxHeartbeats 8000000 in
theorem divisor_spec {x y : Int} {tx ty : Tok} : CallAt w mean mg mb 60 [.int x tx, .int y ty] 1 (RetInt (Int.gcd x y)) := by
  unfold CallAt RetInt
  k_fill
  intro dp un gd cn cs a ccd cl outer A₀ base h₀ L m news s Q E B F X N T hk hd hu hret
  refine wpAny_call ?_
  k_dflt ktr_enter
  k_steps
  · exact div_turn (by assumption) (by assumption) (by assumption) (by assumption) (by assumption) (by assumption)
  · refine' cb_retI (Q := Q) hret ?e1 ?e2 ?e3
    case e2 => k_asm
    case e3 => k_asm
    case e1 => exact div_out (by assumption) (by assumption) (by first | assumption | omega) (by assumption)
theorem rows_D2_2 : True := by
  k_with_none
  exact trivial
end
end Mine
end
section
namespace Mine
theorem ri_num {x y : Int} (hy : 0 < y) : x.fdiv (Int.gcd x y) = (Rat.divInt x y).num := by
  rw [Rat.num_divInt, Int.sign_eq_one_of_pos hy, Int.one_mul, Int.gcd_comm y x, Int.fdiv_eq_ediv_of_nonneg _ (Int.natCast_nonneg _)]
theorem ri_den {x y : Int} (hy : 0 < y) : y.fdiv (Int.gcd x y) = ((Rat.divInt x y).den : Int) := by
  rw [Rat.den_divInt, if_neg (by omega), Int.gcd_comm y x, Int.fdiv_eq_ediv_of_nonneg _ (Int.natCast_nonneg _), Int.natCast_ediv, Int.natAbs_of_nonneg (by omega)]
theorem ri_gcd {x y : Int} (hy : y ≠ 0) : ((Int.gcd x y : Nat) : Int) ≠ 0 := by
  intro h
  have h' : Int.gcd x y = 0 := by omega
  exact hy (Int.gcd_eq_zero_iff.mp h').2
theorem ri_neg {x y : Int} : Rat.divInt (-x) (-y) = Rat.divInt x y := Rat.neg_divInt_neg x y
theorem sz_num0 {k : Nat} {r : Rat} (h : Sz k r) : (if r.num < 0 then -r.num else r.num) ≤ ((10 ^ k : Nat) : Int) := by
  have h1 := (Sz.def.mp h).1
  split <;> omega
theorem sz_den0 {k : Nat} {r : Rat} (h : Sz k r) : (r.den : Int) ≤ ((10 ^ k : Nat) : Int) := by
  have h1 := (Sz.def.mp h).2
  omega
theorem big_is : (10 ^ 700 : Nat) = 10000000000000000000000000000000000000000000000000000000000000000000000000000000000000000000000000000000000000000000000000000000000000000000000000000000000000000000000000000000000000000000000000000000000000000000000000000000000000000000000000000000000000000000000000000000000000000000000000000000000000000000000000000000000000000000000000000000000000000000000000000000000000000000000000000000000000000000000000000000000000000000000000000000000000000000000000000000000000000000000000000000000000000000000000000000000000000000000000000000000000000000000000000000000000000000000000000000000000000000000000000000000000000000000000000000000000000000000000000000000000000000000000000000000000000000000000000 := by decide +kernel
theorem big_int : ((10 ^ 700 : Nat) : Int) = 10000000000000000000000000000000000000000000000000000000000000000000000000000000000000000000000000000000000000000000000000000000000000000000000000000000000000000000000000000000000000000000000000000000000000000000000000000000000000000000000000000000000000000000000000000000000000000000000000000000000000000000000000000000000000000000000000000000000000000000000000000000000000000000000000000000000000000000000000000000000000000000000000000000000000000000000000000000000000000000000000000000000000000000000000000000000000000000000000000000000000000000000000000000000000000000000000000000000000000000000000000000000000000000000000000000000000000000000000000000000000000000000000000000000000000000000000000 := congrArg Nat.cast big_is
theorem sz_num {r : Rat} (h : Sz 700 r) : (if r.num < 0 then -r.num else r.num) ≤ 10000000000000000000000000000000000000000000000000000000000000000000000000000000000000000000000000000000000000000000000000000000000000000000000000000000000000000000000000000000000000000000000000000000000000000000000000000000000000000000000000000000000000000000000000000000000000000000000000000000000000000000000000000000000000000000000000000000000000000000000000000000000000000000000000000000000000000000000000000000000000000000000000000000000000000000000000000000000000000000000000000000000000000000000000000000000000000000000000000000000000000000000000000000000000000000000000000000000000000000000000000000000000000000000000000000000000000000000000000000000000000000000000000000000000000000000000000 := big_int ▸ sz_num0 h
theorem sz_den {r : Rat} (h : Sz 700 r) : (r.den : Int) ≤ 10000000000000000000000000000000000000000000000000000000000000000000000000000000000000000000000000000000000000000000000000000000000000000000000000000000000000000000000000000000000000000000000000000000000000000000000000000000000000000000000000000000000000000000000000000000000000000000000000000000000000000000000000000000000000000000000000000000000000000000000000000000000000000000000000000000000000000000000000000000000000000000000000000000000000000000000000000000000000000000000000000000000000000000000000000000000000000000000000000000000000000000000000000000000000000000000000000000000000000000000000000000000000000000000000000000000000000000000000000000000000000000000000000000000000000000000000000 := big_int ▸ sz_den0 h
/-- a divisor that the long division does not take up -/
@[irreducible] def Dn (y : Int) : Prop := y.natAbs ≤ 10 ^ 1400
theorem Dn.def {y : Int} : Dn y ↔ y.natAbs ≤ 10 ^ 1400 := by unfold Dn; exact Iff.rfl
theorem Dn.neg {y : Int} (h : Dn y) : Dn (-y) := by rw [Dn.def] at *; rw [Int.natAbs_neg]; exact h
theorem dn_log {n : Nat} (h : n ≤ 10 ^ 1400) : n.log2 < 9000 := by
  by_cases h0 : n = 0
  · rw [h0]; decide
  · exact (Nat.log2_lt h0).mpr (Nat.lt_of_le_of_lt h (by decide +kernel))
theorem Dn.gcd {x y : Int} (h : Dn y) (hy : y ≠ 0) (z : Int) : Builtin.divisionGoesByPylong z (Int.gcd x y) = false := by
  refine PyProof.noPylong_of_log2 (dn_log ?_)
  rw [Int.natAbs_natCast]
  exact Nat.le_trans (Nat.le_of_dvd (Int.natAbs_pos.mpr hy) (Int.gcd_dvd_natAbs_right x y)) (Dn.def.mp h)
section
variable {prog : Program} {w : World} {A : Around} {E : Value → Shared → Prop} {s : Shared} {Q : Value → Shared → Prop} {x y : Int} {t u : Tok}
theorem fd_num (hy : 0 < y) (hp : Dn y) (h : Q (.int (Rat.divInt x y).num s.toks) { s with toks := s.toks + 1 }) : wpAny (model prog w) A (binaryOp .FloorDiv (.int x t) (.int (Int.gcd x y) u)) Q E s :=
  floordiv_int (ri_gcd (by omega)) (by rw [ri_num hy]; exact h) (.inl (hp.gcd (by omega) _))
theorem fd_den (hy : 0 < y) (hp : Dn y) (h : Q (.int ((Rat.divInt x y).den : Int) s.toks) { s with toks := s.toks + 1 }) : wpAny (model prog w) A (binaryOp .FloorDiv (.int y t) (.int (Int.gcd x y) u)) Q E s :=
  floordiv_int (ri_gcd (by omega)) (by rw [ri_den hy]; exact h) (.inl (hp.gcd (by omega) _))
theorem fd_num' (hy : 0 < -y) (hp : Dn y) (h : Q (.int (Rat.divInt x y).num s.toks) { s with toks := s.toks + 1 }) : wpAny (model prog w) A (binaryOp .FloorDiv (.int (-x) t) (.int (Int.gcd (-x) (-y)) u)) Q E s :=
  fd_num hy hp.neg (by rw [ri_neg]; exact h)
theorem fd_den' (hy : 0 < -y) (hp : Dn y) (h : Q (.int ((Rat.divInt x y).den : Int) s.toks) { s with toks := s.toks + 1 }) : wpAny (model prog w) A (binaryOp .FloorDiv (.int (-y) t) (.int (Int.gcd (-x) (-y)) u)) Q E s :=
  fd_den hy hp.neg (by rw [ri_neg]; exact h)
theorem gt_no {a b : Int} (hab : a ≤ b) (h : Q (.bool false) s) : wpAny (model prog w) A (compareOp .Gt (.int a t) (.int b u)) Q E s :=
  gt_int (by rw [decide_eq_false (by omega)]; exact h)
end
variable {w : World} {mean : ExcName → Option Value} {mg mb : Str → Option Value}
section
theorem rows_D3_1 : True := by
  k_with_none
  k_with "call ref" => (k_here; (with_reducible show wpAny _ _ (call (Value.ref 60) [Value.int _ _, Value.int _ _]) _ _ _); k_dflt (refine' callAt_use divisor_spec ?k1 ?k2 ?k3 ?k4 ?k5 ?kK ?kd ?ku ?_; (case k1 => k_asm); (case k2 => k_asm); (case k3 => k_asm); (case k4 => k_asm); (case k5 => k_asm); (case kK => first | exact rfl | assumption); (case kd => first | exact roomK (by with_reducible assumption) rfl | ktr_room); (case ku => first | exact unitsK (by with_reducible assumption) rfl | ktr_units)); intro t9 h9 tk9 F9 N9; (try dsimp only); (try k_fold))
  k_with "binaryOp FloorDiv int int" => (k_here; (first | refine fd_num' ?k1 ?k2 ?_ | refine fd_den' ?k1 ?k2 ?_ | refine fd_num ?k1 ?k2 ?_ | refine fd_den ?k1 ?k2 ?_); (case k1 => omega); (case k2 => with_reducible assumption))
  k_with "compareOp Gt int int" => (k_here; refine gt_no ?k1 ?_; (case k1 => first | exact sz_num (by with_reducible assumption) | exact sz_den (by with_reducible assumption)))
  exact trivial
set_option maxRecDepth 100000 in
set_option maxHeartbeats 400000 in
theorem make_spec {x y : Int} {tx ty : Tok} (hy : y ≠ 0) (h0 : Dn y) (h1 : Sz 700 (Rat.divInt x y)) : CallAt w mean mg mb 67 [.int x tx, .int y ty] 2 (RetRat (Rat.divInt x y)) := by
  unfold CallAt RetRat
  k_fill
  intro dp un gd cn cs a ccd cl outer A₀ base h₀ L m news s Q E B F X N T hk hd hu hret
  refine wpAny_call ?_
  k_dflt ktr_enter
  k_steps
  · exact absurd (by first | assumption | (simp only [beq_iff_eq, decide_eq_true_eq] at *; assumption)) hy
  all_goals exact hret _ _ _ _ _ (by k_asm) (by k_asm) (by assumption)
theorem rows_D3_2 : True := by
  k_with_none
  exact trivial
end
end Mine
end
section
namespace Mine
/-- the fraction r stands at b, in the ledger or in the written part -/
def RatIn (w : World) (news : List (Addr × Obj)) (b : Addr) (r : Rat) : Prop :=
  ∃ (o : Obj) (t1 t2 : Tok) (n : Nat), o.cls = .type "tuple" ∧ o.data = .seq #[.int r.num t1, .int (r.den : Int) t2] n ∧ ((b, o) ∈ news ∨ (Mine.hd.heap_39 w.params).lookup b = some o)
theorem RatIn.tail {w : World} {news : List (Addr × Obj)} {p : Addr × Obj} {b : Addr} {r : Rat} (h : RatIn w news b r) : RatIn w (p :: news) b r := by
  obtain ⟨o, t1, t2, n, h1, h2, h3⟩ := h
  exact ⟨o, t1, t2, n, h1, h2, h3.imp (fun x => .tail _ x) id⟩
theorem RatIn.mono {w : World} {news news' : List (Addr × Obj)} {b : Addr} {r : Rat} (h : RatIn w news b r) (k : ∀ p ∈ news, p ∈ news') : RatIn w news' b r := by
  obtain ⟨o, t1, t2, n, h1, h2, h3⟩ := h
  exact ⟨o, t1, t2, n, h1, h2, h3.imp (fun x => k _ x) id⟩
theorem RatIn.head {w : World} {news : List (Addr × Obj)} {b : Addr} {r : Rat} {t1 t2 : Tok} : RatIn w ((b, ratObj r t1 t2) :: news) b r :=
  ⟨_, t1, t2, _, rfl, rfl, .inl (.head _)⟩
theorem RatIn.written {w : World} {news : List (Addr × Obj)} {b : Addr} {p q : Int} {t1 t2 : Tok} {r : Rat} (hp : p = r.num) (hq : q = (r.den : Int)) : RatIn w ((b, { cls := .type "tuple", data := .seq [Value.int p t1, Value.int q t2].toArray }) :: news) b r := by
  subst hp hq
  exact ⟨_, t1, t2, _, rfl, rfl, .inl (.head _)⟩
theorem RatIn.nought {w : World} {news : List (Addr × Obj)} : RatIn w news 146 0 := ⟨_, _, _, _, rfl, rfl, .inr rfl⟩
theorem RatIn.tup {w : World} {news : List (Addr × Obj)} {b : Addr} {r : Rat} {h₀ h : Heap} {L : Addr} {m : Str → Option Value} (R : RatIn w news b r) (F : Fr h₀ L h m) (X : (Mine.hd.heap_39 w.params).In h₀) (N : News h₀ L h news) :
    ∃ t1 t2, IsTup h b #[.int r.num t1, .int (r.den : Int) t2] := by
  obtain ⟨o, t1, t2, n, h1, h2, h3⟩ := R
  refine ⟨t1, t2, o, ?_, h1, n, h2⟩
  exact h3.elim (fun x => (N _ x).1) fun x => F.keep _ _ (X _ _ x)
/-- a factor that is not too great -/
@[irreducible] def Bz (z : Int) : Prop := z.natAbs ≤ 10 ^ 700
theorem Bz.def {z : Int} : Bz z ↔ z.natAbs ≤ 10 ^ 700 := by unfold Bz; exact Iff.rfl
theorem sz_mulok {a b : Int} (ha : Bz a) (hb : Bz b) : PySem.IntMulOk a b := by
  rw [Bz.def] at ha hb
  have key : ∀ z : Int, z.natAbs ≤ 10 ^ 700 → Builtin.Int.intBits z ≤ 2 ^ 20 := by
    intro z hz
    unfold Builtin.Int.intBits
    split
    · exact Nat.zero_le _
    · have h1 : z.natAbs.log2 < 9000 := dn_log (Nat.le_trans hz (by decide +kernel))
      have h2 : (2 : Nat) ^ 20 = 1048576 := by decide
      omega
  exact PySem.IntMulOk.of_bits (key a ha) (key b hb)
theorem Sz.mono {k l : Nat} {r : Rat} (h : Sz k r) (hkl : k ≤ l) : Sz l r := by
  rw [Sz.def] at *
  have := Nat.pow_le_pow_right (n := 10) (by decide) hkl
  exact ⟨Nat.le_trans h.1 this, Nat.le_trans h.2 this⟩
/-- a call whose arguments the ledger must bear -/
abbrev CallP (w : World) (mean : ExcName → Option Value) (mg mb : Str → Option Value) (f : Addr) (vs : List Value) (depth : Nat) (P : List (Addr × Obj) → Prop)
    (Ret : Heap → Addr → (Str → Option Value) → List (Addr × Obj) → Shared → (Value → Shared → Prop) → (Value → Shared → Prop) → Prop) : Prop :=
  ∀ (dp un : Nat) (gd : Option (List Code)) (cn : Str) (cs : Scope) (a : Addr) (ccd : Value) (cl : List (Str × Addr)) (outer : List Env) (A₀ : Around) (base h₀ : Heap) (L : Addr) (m : Str → Option Value) (news : List (Addr × Obj)) (s : Shared) (Q E : Value → Shared → Prop),
    Below A₀ base outer h₀ → Fr h₀ L s.heap m → (Mine.hd.heap_39 w.params).In h₀ → News h₀ L s.heap news → Top Mine.hd.view_39 (looseW Mine.hd.view_39 [Str.ofString "GREATEST"]) mean mg mb h₀ → cs.kind = .function →
    P news → dp + depth < recursionLimit → un + 8 * depth < cLine → Ret h₀ L m news s Q E →
      wpAny (model PySem.Challenge.rw_sa0001_01.row.prog w) (ktrTop dp un gd cn cs L a ccd cl outer) (call (.ref f) vs) Q E s
theorem callP_use {w : World} {mean : ExcName → Option Value} {mg mb : Str → Option Value} {f : Addr} {vs : List Value} {depth : Nat} {P : List (Addr × Obj) → Prop}
    {Ret : Heap → Addr → (Str → Option Value) → List (Addr × Obj) → Shared → (Value → Shared → Prop) → (Value → Shared → Prop) → Prop}
    {dp un : Nat} {gd : Option (List Code)} {cn : Str} {cs : Scope} {a : Addr} {ccd : Value} {cl : List (Str × Addr)} {outer : List Env} {A₀ : Around} {base h₀ : Heap} {L : Addr} {m : Str → Option Value} {news : List (Addr × Obj)} {s : Shared} {Q E : Value → Shared → Prop}
    (C : CallP w mean mg mb f vs depth P Ret)
    (B : Below A₀ base outer h₀) (F : Fr h₀ L s.heap m) (X : (Mine.hd.heap_39 w.params).In h₀) (N : News h₀ L s.heap news) (T : Top Mine.hd.view_39 (looseW Mine.hd.view_39 [Str.ofString "GREATEST"]) mean mg mb h₀) (hk : cs.kind = .function)
    (hP : P news) (hd : dp + depth < recursionLimit) (hu : un + 8 * depth < cLine) (ret : Ret h₀ L m news s Q E) :
    wpAny (model PySem.Challenge.rw_sa0001_01.row.prog w) (ktrTop dp un gd cn cs L a ccd cl outer) (call (.ref f) vs) Q E s :=
  C dp un gd cn cs a ccd cl outer A₀ base h₀ L m news s Q E B F X N T hk hP hd hu ret
section
variable {prog : Program} {w : World} {A : Around} {E : Value → Shared → Prop} {s : Shared} {Q : Value → Shared → Prop} {h₀ : Heap} {L : Addr} {m : Str → Option Value} {news : List (Addr × Obj)} {b : Addr} {r x y : Rat} {t u : Tok} {k : Int}
theorem rat_num {value slice : PySem.Expr} (R : RatIn w news b r) (F : Fr h₀ L s.heap m) (X : (Mine.hd.heap_39 w.params).In h₀) (N : News h₀ L s.heap news)
    (hk : k = 0) (h : ∀ t, Q (.int r.num t) s)
    (hs : subscripted slice false (.ref b) (.int k u) = operate [.ref b, .int k u] (getItem (.ref b) (.int k u))) (hg : ∀ r, letTemporaryGo value (.ref b) r = pure ()) :
    wpAny (model prog w) A (subscriptTail value slice (.ref b) (.int k u)) Q E s := by
  subst hk
  obtain ⟨t1, t2, ht⟩ := R.tup F X N
  exact item_tupleL (l := [_, _]) ht (by decide) (by decide) rfl rfl (h t1) hs hg
theorem rat_den {value slice : PySem.Expr} (R : RatIn w news b r) (F : Fr h₀ L s.heap m) (X : (Mine.hd.heap_39 w.params).In h₀) (N : News h₀ L s.heap news)
    (hk : k = 1) (h : ∀ t, Q (.int (r.den : Int) t) s)
    (hs : subscripted slice false (.ref b) (.int k u) = operate [.ref b, .int k u] (getItem (.ref b) (.int k u))) (hg : ∀ r, letTemporaryGo value (.ref b) r = pure ()) :
    wpAny (model prog w) A (subscriptTail value slice (.ref b) (.int k u)) Q E s := by
  subst hk
  obtain ⟨t1, t2, ht⟩ := R.tup F X N
  exact item_tupleL (l := [_, _]) ht (by decide) (by decide) rfl rfl (h t2) hs hg
end
end Mine
end
section
namespace Mine
theorem dn_prod {p q : Int} (hp : Bz p) (hq : Bz q) : Dn (p * q) := by
  rw [Bz.def] at hp hq
  rw [Dn.def, Int.natAbs_mul]
  exact Nat.le_trans (Nat.mul_le_mul hp hq) (by decide +kernel)
theorem Sz.n {r : Rat} {k : Nat} (h : Sz k r) (hk : k ≤ 700) : Bz r.num := Bz.def.mpr (Sz.def.mp (h.mono hk)).1
theorem Sz.d {r : Rat} {k : Nat} (h : Sz k r) (hk : k ≤ 700) : Bz (r.den : Int) := Bz.def.mpr (Sz.def.mp (h.mono hk)).2
theorem den_ne (x : Rat) : (x.den : Int) ≠ 0 := by have := x.den_nz; omega
theorem add_is {x y : Rat} : Rat.divInt (x.num * y.den + y.num * x.den) (x.den * y.den) = x + y := by
  rw [← Rat.divInt_add_divInt _ _ (den_ne x) (den_ne y), Rat.num_divInt_den, Rat.num_divInt_den]
theorem sub_is {x y : Rat} : Rat.divInt (x.num * y.den - y.num * x.den) (x.den * y.den) = x - y := by
  rw [← Rat.divInt_sub_divInt _ _ (den_ne x) (den_ne y), Rat.num_divInt_den, Rat.num_divInt_den]
theorem mul_is {x y : Rat} : Rat.divInt (x.num * y.num) (x.den * y.den) = x * y := by
  rw [← Rat.divInt_mul_divInt, Rat.num_divInt_den, Rat.num_divInt_den]
theorem div_is {x y : Rat} : Rat.divInt (x.num * y.den) (x.den * y.num) = x / y := by
  rw [Rat.div_def, Rat.inv_def, ← Rat.divInt_mul_divInt, Rat.num_divInt_den]
theorem sz_divInt {n d : Int} {k : Nat} (hn : n.natAbs ≤ 10 ^ k) (hd : d.natAbs ≤ 10 ^ k) : Sz k (Rat.divInt n d) := by
  rw [Sz.def, Rat.num_divInt, Rat.den_divInt]
  constructor
  · rw [Int.natAbs_ediv_of_dvd (Int.dvd_mul_of_dvd_right (Int.gcd_dvd_right _ _)), Int.natAbs_mul]
    refine Nat.le_trans (Nat.div_le_self _ _) (Nat.le_trans ?_ hn)
    refine Nat.le_trans (Nat.mul_le_mul_right _ (?_ : d.sign.natAbs ≤ 1)) (by omega)
    rcases Int.lt_trichotomy d 0 with h | h | h
    · rw [Int.sign_eq_neg_one_of_neg h]; decide
    · rw [h]; decide
    · rw [Int.sign_eq_one_of_pos h]; decide
  · split
    · exact Nat.pos_of_ne_zero (by simp)
    · exact Nat.le_trans (Nat.div_le_self _ _) hd
theorem pow_two_le {k l : Nat} : 10 ^ (k + l) + 10 ^ (k + l) ≤ 10 ^ (k + l + 1) := by
  rw [Nat.pow_succ]; omega
theorem nat_prod {p q : Int} {k l : Nat} (hp : p.natAbs ≤ 10 ^ k) (hq : q.natAbs ≤ 10 ^ l) : (p * q).natAbs ≤ 10 ^ (k + l) := by
  rw [Int.natAbs_mul, Nat.pow_add]
  exact Nat.mul_le_mul hp hq
theorem sz_add {x y : Rat} {k l : Nat} (hx : Sz k x) (hy : Sz l y) : Sz (k + l + 1) (x + y) := by
  rw [Sz.def] at hx hy
  rw [← add_is]
  refine sz_divInt ?_ ?_
  · have h1 := nat_prod hx.1 (q := (y.den : Int)) hy.2
    have h2 := nat_prod (p := y.num) (q := (x.den : Int)) hy.1 hx.2
    rw [Nat.add_comm l k] at h2
    have h3 := pow_two_le (k := k) (l := l)
    omega
  · have h1 := nat_prod (p := (x.den : Int)) (q := (y.den : Int)) hx.2 hy.2
    have h3 := pow_two_le (k := k) (l := l)
    omega
theorem sz_neg {x : Rat} {k : Nat} (hx : Sz k x) : Sz k (-x) := by
  rw [Sz.def] at *
  rw [Rat.neg_num, Rat.neg_den, Int.natAbs_neg]
  exact hx
theorem sz_sub {x y : Rat} {k l : Nat} (hx : Sz k x) (hy : Sz l y) : Sz (k + l + 1) (x - y) := by
  rw [Rat.sub_eq_add_neg]
  exact sz_add hx (sz_neg hy)
theorem sz_mul {x y : Rat} {k l : Nat} (hx : Sz k x) (hy : Sz l y) : Sz (k + l) (x * y) := by
  rw [Sz.def] at hx hy
  rw [← mul_is]
  exact sz_divInt (nat_prod hx.1 hy.1) (nat_prod (p := (x.den : Int)) (q := (y.den : Int)) hx.2 hy.2)
theorem sz_div {x y : Rat} {k l : Nat} (hx : Sz k x) (hy : Sz l y) : Sz (k + l) (x / y) := by
  rw [Sz.def] at hx hy
  rw [← div_is]
  exact sz_divInt (nat_prod (q := (y.den : Int)) hx.1 hy.2) (nat_prod (p := (x.den : Int)) hx.2 hy.1)
variable {w : World} {mean : ExcName → Option Value} {mg mb : Str → Option Value}
section
theorem make_at {x y : Int} {tx ty : Tok} {r : Rat} (he : Rat.divInt x y = r) (hy : y ≠ 0) (h0 : Dn y) (h1 : Sz 700 r) : CallAt w mean mg mb 67 [.int x tx, .int y ty] 2 (RetRat r) := by
  subst he
  exact make_spec hy h0 h1
theorem den_prod {x y : Rat} : (x.den : Int) * (y.den : Int) ≠ 0 := Int.mul_ne_zero (den_ne x) (den_ne y)
theorem den_num {x y : Rat} (h : y ≠ 0) : (x.den : Int) * y.num ≠ 0 := Int.mul_ne_zero (den_ne x) (fun e => h (Rat.num_eq_zero.mp e))
theorem rows_D4_1 : True := by
  k_with_none
  k_with "call ref" => (k_here; (with_reducible show wpAny _ _ (call (Value.ref 67) [Value.int _ _, Value.int _ _]) _ _ _); k_dflt (refine' callAt_use (make_at ?he ?h1 ?h2 ?h3) ?k1 ?k2 ?k3 ?k4 ?k5 ?kK ?kd ?ku ?_; (case he => with_reducible first | exact add_is | exact sub_is | exact mul_is | exact div_is); (case h1 => first | exact den_prod | exact den_num (by assumption)); (case h2 => exact dn_prod (by assumption) (by assumption)); (case h3 => assumption); (case k1 => k_asm); (case k2 => k_asm); (case k3 => k_asm); (case k4 => k_asm); (case k5 => k_asm); (case kK => first | exact rfl | assumption); (case kd => first | exact roomK (by with_reducible assumption) rfl | ktr_room); (case ku => first | exact unitsK (by with_reducible assumption) rfl | ktr_units)); intro b9 t9 u9 h9 tk9 F9 N9 l9; (try dsimp only); (try k_fold))
  k_with "subscriptTail Name Constant ref int" => (k_here; (with_reducible first | (refine' rat_num ?k1 ?k2 ?k3 ?k4 ?k5 ?_ ?k8 ?k9; (case k5 => rfl)) | (refine' rat_den ?k1 ?k2 ?k3 ?k4 ?k5 ?_ ?k8 ?k9; (case k5 => rfl))); (case k8 => with_unfolding_all rfl); (case k9 => intro _; with_unfolding_all rfl); (case k1 => k_asm); (case k2 => k_asm); (case k3 => k_asm); (case k4 => k_asm); intro t7; (try dsimp only))
  k_with "binaryOp Mult int int" => (k_here; (with_reducible refine mul_int ?_ ?m0); (case m0 => exact sz_mulok (by assumption) (by assumption)); (try dsimp only))
  exact trivial
set_option maxRecDepth 100000 in
set_option maxHeartbeats 400000 in
theorem sum_spec {x y : Rat} {bx by' : Addr} (hx : Sz 340 x) (hy : Sz 340 y) : CallP w mean mg mb 74 [.ref bx, .ref by'] 3 (fun news => RatIn w news bx x ∧ RatIn w news by' y) (RetRat (x + y)) := by
  have hx1 := hx.n (by decide)
  have hx2 := hx.d (by decide)
  have hy1 := hy.n (by decide)
  have hy2 := hy.d (by decide)
  have hr : Sz 700 (x + y) := (sz_add hx hy).mono (by decide)
  unfold CallP RetRat
  k_fill
  rintro dp un gd cn cs a ccd cl outer A₀ base h₀ L m news s Q E B F X N T hk ⟨R1, R2⟩ hd hu hret
  refine wpAny_call ?_
  k_dflt ktr_enter
  k_steps
  all_goals exact hret _ _ _ _ _ (by k_asm) (by k_asm) (by assumption)
set_option maxRecDepth 100000 in
set_option maxHeartbeats 400000 in
theorem diff_spec {x y : Rat} {bx by' : Addr} (hx : Sz 340 x) (hy : Sz 340 y) : CallP w mean mg mb 81 [.ref bx, .ref by'] 3 (fun news => RatIn w news bx x ∧ RatIn w news by' y) (RetRat (x - y)) := by
  have hx1 := hx.n (by decide)
  have hx2 := hx.d (by decide)
  have hy1 := hy.n (by decide)
  have hy2 := hy.d (by decide)
  have hr : Sz 700 (x - y) := (sz_sub hx hy).mono (by decide)
  unfold CallP RetRat
  k_fill
  rintro dp un gd cn cs a ccd cl outer A₀ base h₀ L m news s Q E B F X N T hk ⟨R1, R2⟩ hd hu hret
  refine wpAny_call ?_
  k_dflt ktr_enter
  k_steps
  all_goals exact hret _ _ _ _ _ (by k_asm) (by k_asm) (by assumption)
set_option maxRecDepth 100000 in
set_option maxHeartbeats 400000 in
theorem prod_spec {x y : Rat} {bx by' : Addr} (hx : Sz 340 x) (hy : Sz 340 y) : CallP w mean mg mb 88 [.ref bx, .ref by'] 3 (fun news => RatIn w news bx x ∧ RatIn w news by' y) (RetRat (x * y)) := by
  have hx1 := hx.n (by decide)
  have hx2 := hx.d (by decide)
  have hy1 := hy.n (by decide)
  have hy2 := hy.d (by decide)
  have hr : Sz 700 (x * y) := (sz_mul hx hy).mono (by decide)
  unfold CallP RetRat
  k_fill
  rintro dp un gd cn cs a ccd cl outer A₀ base h₀ L m news s Q E B F X N T hk ⟨R1, R2⟩ hd hu hret
  refine wpAny_call ?_
  k_dflt ktr_enter
  k_steps
  all_goals exact hret _ _ _ _ _ (by k_asm) (by k_asm) (by assumption)
set_option maxRecDepth 100000 in
set_option maxHeartbeats 400000 in
theorem quot_spec {x y : Rat} {bx by' : Addr} (hx : Sz 340 x) (hy : Sz 340 y) (hy0 : y ≠ 0) : CallP w mean mg mb 95 [.ref bx, .ref by'] 3 (fun news => RatIn w news bx x ∧ RatIn w news by' y) (RetRat (x / y)) := by
  have hx1 := hx.n (by decide)
  have hx2 := hx.d (by decide)
  have hy1 := hy.n (by decide)
  have hy2 := hy.d (by decide)
  have hr : Sz 700 (x / y) := (sz_div hx hy).mono (by decide)
  unfold CallP RetRat
  k_fill
  rintro dp un gd cn cs a ccd cl outer A₀ base h₀ L m news s Q E B F X N T hk ⟨R1, R2⟩ hd hu hret
  refine wpAny_call ?_
  k_dflt ktr_enter
  k_steps
  all_goals exact hret _ _ _ _ _ (by k_asm) (by k_asm) (by assumption)
theorem rows_D4_2 : True := by
  k_with_none
  exact trivial
end
def ratOrd (x y : Rat) : Int := if x < y then -1 else if y < x then 1 else 0
def ratTz (x : Rat) : Int := if x.num < 0 then -((-x.num).fdiv x.den) else x.num.fdiv x.den
@[irreducible] def ratSize (x : Rat) : Int := (2 * (if x.num < 0 then -x.num else x.num) + x.den).fdiv (2 * x.den)
def ratRnd (x : Rat) : Int := if x.num < 0 then -ratSize x else ratSize x
theorem floor_is {x : Rat} : x.num.fdiv x.den = x.floor := by
  rw [Rat.floor_def, Int.fdiv_eq_ediv_of_nonneg _ (Int.natCast_nonneg _)]
theorem ord_lt {x y : Rat} (h : x.num * y.den < y.num * x.den) : -1 = ratOrd x y := by
  unfold ratOrd
  rw [if_pos ((Rat.lt_iff x y).mpr h)]
theorem ord_gt {x y : Rat} (h : ¬ x.num * y.den < y.num * x.den) (h' : y.num * x.den < x.num * y.den) : 1 = ratOrd x y := by
  unfold ratOrd
  rw [if_neg (fun q => h ((Rat.lt_iff x y).mp q)), if_pos ((Rat.lt_iff y x).mpr h')]
theorem ord_eq {x y : Rat} (h : ¬ x.num * y.den < y.num * x.den) (h' : ¬ y.num * x.den < x.num * y.den) : 0 = ratOrd x y := by
  unfold ratOrd
  rw [if_neg (fun q => h ((Rat.lt_iff x y).mp q)), if_neg (fun q => h' ((Rat.lt_iff y x).mp q))]
theorem den_one {x : Rat} : ((x.den : Int) == 1) = decide (x.den = 1) := by
  by_cases h : x.den = 1
  · rw [decide_eq_true h, h]; rfl
  · rw [decide_eq_false h]; exact beq_false_of_ne (by omega)
theorem ret_b {Q : Value → Shared → Prop} {s : Shared} {h₀ h' : Heap} {L : Addr} {m : Str → Option Value} {news : List (Addr × Obj)} {tk' : Nat} {x y : Bool} (hret : ∀ (h' : Heap) (tk' : Nat), Fr h₀ L h' m → News h₀ L h' news → Q (.bool x) { s with heap := h', toks := tk' }) (e : y = x) (F : Fr h₀ L h' m) (N : News h₀ L h' news) : Q (.bool y) { s with heap := h', toks := tk' } := by
  subst e
  exact hret h' tk' F N
theorem den_2 (x : Rat) : 2 * (x.den : Int) ≠ 0 := by have := x.den_nz; omega
theorem no_py {x : Rat} (h : Bz (x.den : Int)) (z : Int) : Builtin.divisionGoesByPylong z x.den = false :=
  PyProof.noPylong_of_log2 (dn_log (Nat.le_trans (Bz.def.mp h) (by decide +kernel)))
theorem no_py2 {x : Rat} (h : Bz (x.den : Int)) (z : Int) : Builtin.divisionGoesByPylong z (2 * x.den) = false :=
  PyProof.noPylong_of_log2 (dn_log (by rw [Int.natAbs_mul]; exact Nat.le_trans (Nat.mul_le_mul_left 2 (Bz.def.mp h)) (by decide +kernel)))
section
theorem fd_size {prog : Program} {A : Around} {E : Value → Shared → Prop} {s : Shared} {Q : Value → Shared → Prop} {x : Rat} {t u : Tok} (hx : Bz (x.den : Int)) (h : ∀ t, Q (.int (ratSize x) t) { s with toks := s.toks + 1 }) :
    wpAny (model prog w) A (binaryOp .FloorDiv (.int (2 * (if x.num < 0 then -x.num else x.num) + x.den) t) (.int (2 * x.den) u)) Q E s :=
  floordiv_int (den_2 x) (by have h9 := h s.toks; unfold ratSize at h9; exact h9) (.inl (no_py2 hx _))
theorem rows_D4_3 : True := by
  k_with_none
  k_with "subscriptTail Name Constant ref int" => (k_here; (with_reducible first | (refine' rat_num ?k1 ?k2 ?k3 ?k4 ?k5 ?_ ?k8 ?k9; (case k5 => rfl)) | (refine' rat_den ?k1 ?k2 ?k3 ?k4 ?k5 ?_ ?k8 ?k9; (case k5 => rfl))); (case k8 => with_unfolding_all rfl); (case k9 => intro _; with_unfolding_all rfl); (case k1 => k_asm); (case k2 => k_asm); (case k3 => k_asm); (case k4 => k_asm); intro t7; (try dsimp only))
  k_with "binaryOp Mult int int" => (k_here; (with_reducible refine mul_int ?_ ?m0); (case m0 => first | exact PySem.IntMulOk.of_left (by decide +kernel) | exact sz_mulok (by assumption) (by assumption)); (try dsimp only))
  k_with "binaryOp FloorDiv int int" => (k_here; (with_reducible refine' floordiv_int ?k1 ?_ ?k2); (case k1 => first | assumption | omega); (case k2 => (with_reducible first | refine' Or.inl (no_py2 ?_ _) | refine' Or.inl (no_py ?_ _)); assumption); (try dsimp only))
  exact trivial
set_option maxRecDepth 100000 in
set_option maxHeartbeats 400000 in
theorem neg_spec {x : Rat} {bx : Addr} (hx : Sz 340 x) : CallP w mean mg mb 102 [.ref bx] 1 (fun news => RatIn w news bx x) (RetRat (-x)) := by
  have hx1 := hx.n (by decide)
  have hx2 := hx.d (by decide)
  have hx3 := den_ne x
  have hx4 := den_2 x
  unfold CallP
  k_fill
  rintro dp un gd cn cs a ccd cl outer A₀ base h₀ L m news s Q E B F X N T hk R1 hd hu hret
  refine wpAny_call ?_
  k_dflt ktr_enter
  k_steps
  all_goals exact hret _ _ _ _ _ (by k_asm) (by k_asm) (by assumption)
set_option maxRecDepth 100000 in
set_option maxHeartbeats 400000 in
theorem floor_spec {x : Rat} {bx : Addr} (hx : Sz 340 x) : CallP w mean mg mb 123 [.ref bx] 1 (fun news => RatIn w news bx x) (RetInt x.floor) := by
  have hx1 := hx.n (by decide)
  have hx2 := hx.d (by decide)
  have hx3 := den_ne x
  have hx4 := den_2 x
  unfold CallP
  k_fill
  rintro dp un gd cn cs a ccd cl outer A₀ base h₀ L m news s Q E B F X N T hk R1 hd hu hret
  refine wpAny_call ?_
  k_dflt ktr_enter
  k_steps
  all_goals
    refine' cb_retI (Q := Q) hret ?e1 ?e2 ?e3
    case e2 => k_asm
    case e3 => k_asm
    case e1 => exact floor_is
set_option maxRecDepth 100000 in
set_option maxHeartbeats 400000 in
theorem tz_spec {x : Rat} {bx : Addr} (hx : Sz 340 x) : CallP w mean mg mb 130 [.ref bx] 1 (fun news => RatIn w news bx x) (RetInt (ratTz x)) := by
  have hx1 := hx.n (by decide)
  have hx2 := hx.d (by decide)
  have hx3 := den_ne x
  have hx4 := den_2 x
  unfold CallP
  k_fill
  rintro dp un gd cn cs a ccd cl outer A₀ base h₀ L m news s Q E B F X N T hk R1 hd hu hret
  refine wpAny_call ?_
  k_dflt ktr_enter
  k_steps
  all_goals
    refine' cb_retI (Q := Q) hret ?e1 ?e2 ?e3
    case e2 => k_asm
    case e3 => k_asm
    case e1 => (unfold ratTz; first | rw [if_pos (by assumption)] | rw [if_neg (by assumption)])
set_option maxRecDepth 100000 in
set_option maxHeartbeats 400000 in
theorem whole_spec {x : Rat} {bx : Addr} (hx : Sz 340 x) : CallP w mean mg mb 144 [.ref bx] 1 (fun news => RatIn w news bx x) (RetBool (decide (x.den = 1))) := by
  have hx1 := hx.n (by decide)
  have hx2 := hx.d (by decide)
  have hx3 := den_ne x
  have hx4 := den_2 x
  unfold CallP
  k_fill
  rintro dp un gd cn cs a ccd cl outer A₀ base h₀ L m news s Q E B F X N T hk R1 hd hu hret
  refine wpAny_call ?_
  k_dflt ktr_enter
  k_steps
  all_goals
    refine' ret_b (Q := Q) hret ?e1 ?e2 ?e3
    case e2 => k_asm
    case e3 => k_asm
    case e1 => exact den_one
set_option maxRecDepth 100000 in
set_option maxHeartbeats 400000 in
theorem order_spec {x y : Rat} {bx by' : Addr} (hx : Sz 340 x) (hy : Sz 340 y) : CallP w mean mg mb 116 [.ref bx, .ref by'] 1 (fun news => RatIn w news bx x ∧ RatIn w news by' y) (RetInt (ratOrd x y)) := by
  have hx1 := hx.n (by decide)
  have hx2 := hx.d (by decide)
  have hy1 := hy.n (by decide)
  have hy2 := hy.d (by decide)
  unfold CallP RetInt
  k_fill
  rintro dp un gd cn cs a ccd cl outer A₀ base h₀ L m news s Q E B F X N T hk ⟨R1, R2⟩ hd hu hret
  refine wpAny_call ?_
  k_dflt ktr_enter
  k_steps
  all_goals
    refine' cb_retI (Q := Q) hret ?e1 ?e2 ?e3
    case e2 => k_asm
    case e3 => k_asm
    case e1 => first | exact ord_lt (by assumption) | exact ord_gt (by assumption) (by assumption) | exact ord_eq (by assumption) (by assumption)
theorem rows_D4_4 : True := by
  k_with_none
  exact trivial
end
end Mine
end
section
namespace Mine
variable {w : World} {mean : ExcName → Option Value} {mg mb : Str → Option Value}
section
theorem rows_D5_1 : True := by
  k_with_none
  k_with "subscriptTail Name Constant ref int" => (k_here; (with_reducible first | (refine' rat_num ?k1 ?k2 ?k3 ?k4 ?k5 ?_ ?k8 ?k9; (case k5 => rfl)) | (refine' rat_den ?k1 ?k2 ?k3 ?k4 ?k5 ?_ ?k8 ?k9; (case k5 => rfl))); (case k8 => with_unfolding_all rfl); (case k9 => intro _; with_unfolding_all rfl); (case k1 => k_asm); (case k2 => k_asm); (case k3 => k_asm); (case k4 => k_asm); intro t7; (try dsimp only))
  k_with "binaryOp Mult int int" => (k_here; (with_reducible refine mul_int ?_ ?m0); (case m0 => first | exact PySem.IntMulOk.of_left (by decide +kernel) | exact sz_mulok (by assumption) (by assumption)); (try dsimp only))
  exact trivial
section
theorem rows_D5_2 : True := by
  k_with "binaryOp FloorDiv int int" => (k_here; (with_reducible refine fd_size ?k1 ?_); (case k1 => assumption); intro t7; (try dsimp only))
  exact trivial
set_option maxRecDepth 100000 in
set_option maxHeartbeats 400000 in
theorem rnd_spec {x : Rat} {bx : Addr} (hx : Sz 340 x) : CallP w mean mg mb 137 [.ref bx] 1 (fun news => RatIn w news bx x) (RetInt (ratRnd x)) := by
  have hx1 := hx.n (by decide)
  have hx2 := hx.d (by decide)
  have hx3 := den_ne x
  have hx4 := den_2 x
  unfold CallP
  k_fill
  rintro dp un gd cn cs a ccd cl outer A₀ base h₀ L m news s Q E B F X N T hk R1 hd hu hret
  refine wpAny_call ?_
  k_dflt ktr_enter
  k_steps
  all_goals
    refine' cb_retI (Q := Q) hret ?e1 ?e2 ?e3
    case e2 => k_asm
    case e3 => k_asm
    case e1 => (unfold ratRnd; first | rw [if_pos (by assumption)] | rw [if_neg (by assumption)])
theorem rows_D5_3 : True := by
  k_with_none
  k_with "subscriptTail Name Constant ref int" => (k_here; (with_reducible first | (refine' rat_num ?k1 ?k2 ?k3 ?k4 ?k5 ?_ ?k8 ?k9; (case k5 => rfl)) | (refine' rat_den ?k1 ?k2 ?k3 ?k4 ?k5 ?_ ?k8 ?k9; (case k5 => rfl))); (case k8 => with_unfolding_all rfl); (case k9 => intro _; with_unfolding_all rfl); (case k1 => k_asm); (case k2 => k_asm); (case k3 => k_asm); (case k4 => k_asm); intro t7; (try dsimp only))
  k_with "binaryOp Mult int int" => (k_here; (with_reducible refine mul_int ?_ ?m0); (case m0 => first | exact PySem.IntMulOk.of_left (by decide +kernel) | exact sz_mulok (by assumption) (by assumption)); (try dsimp only))
  exact trivial
end
theorem rows_D5_4 : True := by
  k_with_none
  exact trivial
end
end Mine
end
section
namespace Mine
theorem RatIn.of_mem {w : World} {news : List (Addr × Obj)} {b : Addr} {r : Rat} {t1 t2 : Tok} (h : (b, ratObj r t1 t2) ∈ news) : RatIn w news b r :=
  ⟨_, t1, t2, _, rfl, rfl, .inl h⟩
theorem RatIn.of_mem' {w : World} {news : List (Addr × Obj)} {b : Addr} {p q : Int} {r : Rat} {t1 t2 : Tok} (h : (b, ({ cls := .type "tuple", data := .seq #[.int p t1, .int q t2] } : Obj)) ∈ news) (hp : p = r.num) (hq : q = (r.den : Int)) : RatIn w news b r := by
  subst hp hq
  exact .of_mem h
theorem RatIn.of_int {w : World} {news : List (Addr × Obj)} {b : Addr} {k : Int} {t1 t2 : Tok} (h : (b, ({ cls := .type "tuple", data := .seq #[.int k t1, .int 1 t2] } : Obj)) ∈ news) : RatIn w news b (k : Rat) :=
  RatIn.of_mem' h rfl rfl
theorem RatIn.of_half {w : World} {news : List (Addr × Obj)} {b : Addr} {t1 t2 : Tok} (h : (b, ({ cls := .type "tuple", data := .seq #[.int 1 t1, .int 2 t2] } : Obj)) ∈ news) : RatIn w news b (1 / 2 : Rat) :=
  RatIn.of_mem' h (by decide +kernel) (by decide +kernel)
theorem RatIn.of_mhalf {w : World} {news : List (Addr × Obj)} {b : Addr} {t1 t2 : Tok} (h : (b, ({ cls := .type "tuple", data := .seq #[.int (-1) t1, .int 2 t2] } : Obj)) ∈ news) : RatIn w news b (-1 / 2 : Rat) :=
  RatIn.of_mem' h (by decide +kernel) (by decide +kernel)
theorem RatIn.reads {w : World} {news : List (Addr × Obj)} {b : Addr} {r : Rat} {h₀ h : Heap} {L : Addr} {m : Str → Option Value} (R : RatIn w news b r) (F : Fr h₀ L h m) (X : (Mine.hd.heap_39 w.params).In h₀) (N : News h₀ L h news) :
    ∃ as, PySem.Reads h (.ref b) (.tuple [.int r.num, .int (r.den : Int)]) as := by
  obtain ⟨t1, t2, o, h1, h2, n, h3⟩ := R.tup F X N
  exact ⟨_, reads_tuple_at h1 h2 h3 (.cons (.int _ _) (.cons (.int _ _) .nil))⟩
theorem rat_eqv {x y : Rat} : PyData.eqv (.tuple [.int x.num, .int (x.den : Int)]) (.tuple [.int y.num, .int (y.den : Int)]) = decide (x = y) := by
  simp only [PyData.eqv, PyData.eqvAll, Bool.and_true]
  by_cases h : x = y
  · subst h; simp
  · rw [decide_eq_false h]
    by_cases h1 : x.num = y.num
    · by_cases h2 : x.den = y.den
      · exact absurd (Rat.ext h1 h2) h
      · have h3 : ((x.den : Int) == (y.den : Int)) = false := beq_false_of_ne (by omega)
        simp [h3]
    · have h3 : (x.num == y.num) = false := beq_false_of_ne h1
      simp [h3]
section
variable {prog : Program} {w : World} {A : Around} {E : Value → Shared → Prop} {s : Shared} {Q : Value → Shared → Prop} {h₀ : Heap} {L : Addr} {m : Str → Option Value} {news : List (Addr × Obj)} {b b' : Addr} {r x y : Rat} {t u : Tok} {k : Int}
theorem rat_eq (R : RatIn w news b x) (R' : RatIn w news b' y) (F : Fr h₀ L s.heap m) (X : (Mine.hd.heap_39 w.params).In h₀) (N : News h₀ L s.heap news) (hu : A.units + 64 < cLine)
    (h : Q (.bool (decide (x = y))) s) : wpAny (model prog w) A (compareOp .Eq (.ref b) (.ref b')) Q E s := by
  obtain ⟨_, r1⟩ := R.reads F X N
  obtain ⟨_, r2⟩ := R'.reads F X N
  exact eq_dataH r1 r2 rfl rfl hu (by rw [rat_eqv]; exact h)
theorem rat_ne (R : RatIn w news b x) (R' : RatIn w news b' y) (F : Fr h₀ L s.heap m) (X : (Mine.hd.heap_39 w.params).In h₀) (N : News h₀ L s.heap news) (hu : A.units + 64 < cLine)
    (h : Q (.bool (!decide (x = y))) s) : wpAny (model prog w) A (compareOp .NotEq (.ref b) (.ref b')) Q E s := by
  obtain ⟨_, r1⟩ := R.reads F X N
  obtain ⟨_, r2⟩ := R'.reads F X N
  exact ne_dataH r1 r2 rfl rfl hu (by rw [rat_eqv]; exact h)
/-- the two are the same, as is shown apart -/
theorem rat_same (R : RatIn w news b x) (R' : RatIn w news b' y) (F : Fr h₀ L s.heap m) (X : (Mine.hd.heap_39 w.params).In h₀) (N : News h₀ L s.heap news) (hu : A.units + 64 < cLine) (e : x = y)
    (h : Q (.bool true) s) : wpAny (model prog w) A (compareOp .Eq (.ref b) (.ref b')) Q E s :=
  rat_eq R R' F X N hu (by rw [decide_eq_true e]; exact h)
theorem rat_differ (R : RatIn w news b x) (R' : RatIn w news b' y) (F : Fr h₀ L s.heap m) (X : (Mine.hd.heap_39 w.params).In h₀) (N : News h₀ L s.heap news) (hu : A.units + 64 < cLine) (e : x = y)
    (h : Q (.bool false) s) : wpAny (model prog w) A (compareOp .NotEq (.ref b) (.ref b')) Q E s :=
  rat_ne R R' F X N hu (by rw [decide_eq_true e]; exact h)
end
end Mine
end
section
namespace Mine
theorem sz_0 : Sz 0 (0 : Rat) := Sz.def.mpr (by decide)
theorem sz_1 : Sz 1 ((1 : Int) : Rat) := Sz.def.mpr (by decide)
theorem sz_2 : Sz 1 ((2 : Int) : Rat) := Sz.def.mpr (by decide)
theorem sz_h : Sz 1 (1 / 2 : Rat) := Sz.def.mpr (by decide +kernel)
theorem sz_mh : Sz 1 (-1 / 2 : Rat) := Sz.def.mpr (by decide +kernel)
theorem two_ne : ((2 : Int) : Rat) ≠ 0 := by decide +kernel
theorem bot_ne {b : Int} (h : b ≠ 0) : (b : Rat) ≠ 0 := fun e => h (Rat.intCast_eq_zero_iff.mp e)
variable {w : World} {mean : ExcName → Option Value} {mg mb : Str → Option Value}
theorem least_1 {t b k : Int} {r : Rat} (hk : k ≠ 0) (e : Rat.divInt t b = r) : Rat.divInt (t * k) (b * k) = r := by rw [Rat.divInt_mul_right hk]; exact e
theorem least_2 {t b : Int} {r : Rat} (e : Rat.divInt t b = r) : (t : Rat) / (b : Rat) = r := by rw [← Rat.divInt_eq_div]; exact e
theorem whole_is {t : Int} : Rat.divInt t 1 = (t : Rat) := by rw [Rat.divInt_eq_div]; show (t : Rat) / 1 = t; grind
theorem dn_of {z : Int} (h : z.natAbs ≤ 10 ^ 30) : Dn z := Dn.def.mpr (Nat.le_trans h (by decide +kernel))
theorem bz_of {z : Int} (h : z.natAbs ≤ 10 ^ 30) : Bz z := Bz.def.mpr (Nat.le_trans h (by decide +kernel))
section
theorem rows_L1_1 : True := by
  k_with_none
  k_with "call ref" => (k_here; (with_reducible show wpAny _ _ (call (Value.ref 67) [Value.int _ _, Value.int _ _]) _ _ _); k_dflt (refine' callAt_use (make_at ?he ?h1 ?h2 ?h3) ?k1 ?k2 ?k3 ?k4 ?k5 ?kK ?kd ?ku ?_; (case he => with_reducible assumption); (case h1 => with_reducible assumption); (case h2 => with_reducible assumption); (case h3 => (with_reducible first | assumption | exact Sz.mono (by assumption) (by decide))); (case k1 => k_asm); (case k2 => k_asm); (case k3 => k_asm); (case k4 => k_asm); (case k5 => k_asm); (case kK => first | exact rfl | assumption); (case kd => first | exact roomK (by with_reducible assumption) rfl | ktr_room); (case ku => first | exact unitsK (by with_reducible assumption) rfl | ktr_units)); intro b9 t9 u9 h9 tk9 F9 N9 l9; (try dsimp only); (try k_fold))
  k_with "call ref" => (k_here; (with_reducible show wpAny _ _ (call (Value.ref 95) [Value.ref _, Value.ref _]) _ _ _); k_dflt (refine' callP_use (quot_spec ?z1 ?z2 ?z3) ?k1 ?k2 ?k3 ?k4 ?k5 ?kK ?kP ?kd ?ku ?_; (case k1 => k_asm); (case k2 => k_asm); (case k3 => k_asm); (case k4 => k_asm); (case k5 => k_asm); (case kK => first | exact rfl | assumption); (case kP => (refine ⟨?_, ?_⟩ <;> (first | with_reducible assumption | with_reducible exact RatIn.nought | exact RatIn.of_mem (by k_mem) | exact RatIn.of_int (by k_mem) | exact RatIn.of_half (by k_mem) | exact RatIn.of_mhalf (by k_mem) | exact RatIn.mono (by with_reducible assumption) (fun _ h8 => by (repeat' first | exact h8 | apply List.Mem.tail))))); (case z1 => (with_reducible first | assumption | exact Sz.mono (by assumption) (by decide))); (case z2 => (with_reducible first | assumption | exact Sz.mono (by assumption) (by decide))); (case z3 => first | with_reducible assumption | exact two_ne); (case kd => first | exact roomK (by with_reducible assumption) rfl | ktr_room); (case ku => first | exact unitsK (by with_reducible assumption) rfl | ktr_units)); intro b9 t9 u9 h9 tk9 F9 N9 l9; (try dsimp only); (try k_fold))
  k_with "compareOp Eq ref ref" => (k_here; (with_reducible refine' rat_same ?r1 ?r2 ?k2 ?k3 ?k4 ?ku ?e0 ?_); (case k2 => k_asm); (case k3 => k_asm); (case k4 => k_asm); k_dflt ((case r1 => (first | with_reducible assumption | with_reducible exact RatIn.nought | exact RatIn.of_mem (by k_mem) | exact RatIn.of_int (by k_mem) | exact RatIn.of_half (by k_mem) | exact RatIn.of_mhalf (by k_mem) | exact RatIn.mono (by with_reducible assumption) (fun _ h8 => by (repeat' first | exact h8 | apply List.Mem.tail)))); (case r2 => (first | with_reducible assumption | with_reducible exact RatIn.nought | exact RatIn.of_mem (by k_mem) | exact RatIn.of_int (by k_mem) | exact RatIn.of_half (by k_mem) | exact RatIn.of_mhalf (by k_mem) | exact RatIn.mono (by with_reducible assumption) (fun _ h8 => by (repeat' first | exact h8 | apply List.Mem.tail))))); (case ku => first | exact unitsK (by with_reducible assumption) rfl | ktr_units); (case e0 => first | with_reducible assumption | with_reducible rfl | fail "same"); (try dsimp only))
  k_with "compareOp NotEq ref ref" => (k_here; (with_reducible refine' rat_differ ?r1 ?r2 ?k2 ?k3 ?k4 ?ku ?e0 ?_); (case k2 => k_asm); (case k3 => k_asm); (case k4 => k_asm); k_dflt ((case r1 => (first | with_reducible assumption | with_reducible exact RatIn.nought | exact RatIn.of_mem (by k_mem) | exact RatIn.of_int (by k_mem) | exact RatIn.of_half (by k_mem) | exact RatIn.of_mhalf (by k_mem) | exact RatIn.mono (by with_reducible assumption) (fun _ h8 => by (repeat' first | exact h8 | apply List.Mem.tail)))); (case r2 => (first | with_reducible assumption | with_reducible exact RatIn.nought | exact RatIn.of_mem (by k_mem) | exact RatIn.of_int (by k_mem) | exact RatIn.of_half (by k_mem) | exact RatIn.of_mhalf (by k_mem) | exact RatIn.mono (by with_reducible assumption) (fun _ h8 => by (repeat' first | exact h8 | apply List.Mem.tail))))); (case ku => first | exact unitsK (by with_reducible assumption) rfl | ktr_units); (case e0 => first | with_reducible assumption | with_reducible rfl | fail "same"); (try dsimp only))
  k_with "binaryOp Mult int int" => (k_here; (with_reducible refine mul_int ?_ ?m0); (case m0 => exact sz_mulok (by with_reducible assumption) (by with_reducible assumption)); (try dsimp only))
  exact trivial
set_option maxRecDepth 100000 in
set_option maxHeartbeats 1000000 in
theorem least_spec {p q k : Int} {t1 t2 t3 : Tok} (hp : p.natAbs ≤ 10 ^ 12) (hq : q.natAbs ≤ 12) (hq0 : q ≠ 0) (hk1 : 2 ≤ k) (hk2 : k ≤ 10) : CallAt w mean mg mb 174 [.int p t1, .int q t2, .int k t3] 20 (RetBool true) := by
  obtain ⟨r, e1⟩ : ∃ r, Rat.divInt p q = r := ⟨_, rfl⟩
  have e2 := least_1 (k := k) (by omega) e1
  have e3 := least_1 (k := -k) (by omega) e1
  have e4 := least_2 e1
  have e5 : Rat.divInt p 1 = (p : Rat) := whole_is
  have e6 : Rat.divInt q 1 = (q : Rat) := whole_is
  have n1 : q * k ≠ 0 := Int.mul_ne_zero hq0 (by omega)
  have n2 : q * -k ≠ 0 := Int.mul_ne_zero hq0 (by omega)
  have n3 : (1 : Int) ≠ 0 := by decide
  have n4 := bot_ne hq0
  have d0 : (q * k).natAbs ≤ 10 ^ 30 := by
    rw [Int.natAbs_mul]
    exact Nat.le_trans (Nat.mul_le_mul hq (show k.natAbs ≤ 10 by omega)) (by decide)
  have d1 := dn_of d0
  have d2 : Dn (q * -k) := dn_of (by rw [Int.mul_neg, Int.natAbs_neg]; exact d0)
  have d3 : Dn q := dn_of (by omega)
  have d4 : Dn 1 := dn_of (by decide)
  have z1 : Bz p := bz_of (by omega)
  have z2 : Bz q := bz_of (by omega)
  have z3 : Bz k := bz_of (by omega)
  have z4 : Bz (-k) := bz_of (by omega)
  have s1 : Sz 12 r := e1 ▸ sz_divInt hp (Nat.le_trans hq (by decide))
  have s3 : Sz 12 (p : Rat) := by rw [← e5]; exact sz_divInt hp (by decide)
  have s4 : Sz 12 (q : Rat) := by rw [← e6]; exact sz_divInt (Nat.le_trans hq (by decide)) (by decide)
  clear d0 hp hq
  unfold CallAt RetBool
  k_fill
  intro dp un gd cn cs a ccd cl outer A₀ base h₀ L m news s Q E B F X N T hk hd hu hret
  refine wpAny_call ?_
  k_dflt ktr_enter
  k_steps
  all_goals
    refine' ret_b (Q := Q) hret ?e1 ?e2 ?e3
    case e1 => rfl
    case e2 => k_asm
    case e3 => exact fun p hp => (by assumption : News _ _ _ _) p (.tail _ (.tail _ (.tail _ (.tail _ (.tail _ (.tail _ hp))))))
theorem rows_L1_2 : True := by
  k_with_none
  exact trivial
end
end Mine
end
section
namespace Mine
-- the field's laws
theorem f_add_comm (x y : Rat) : x + y = y + x := Rat.add_comm x y
theorem f_add_assoc (x y z : Rat) : x + y + z = x + (y + z) := Rat.add_assoc x y z
theorem f_mul_comm (x y : Rat) : x * y = y * x := Rat.mul_comm x y
theorem f_mul_assoc (x y z : Rat) : x * y * z = x * (y * z) := Rat.mul_assoc x y z
theorem f_spread (x y z : Rat) : x * (y + z) = x * y + x * z := Rat.mul_add x y z
theorem f_undo (x y : Rat) : x + y - y = x := Rat.add_sub_cancel
theorem f_neg (x : Rat) : x + -x = 0 := Rat.add_neg_cancel x
theorem f_turn (x y : Rat) : x - y = -(y - x) := (Rat.neg_sub y x).symm
theorem f_quot {x y : Rat} (h : y ≠ 0) : x * y / y = x := Rat.mul_div_cancel h
theorem f_prod {x y : Rat} (h : y ≠ 0) : x / y * y = x := Rat.div_mul_cancel h
-- the order's laws
theorem o_flip (x y : Rat) : ratOrd y x = -ratOrd x y := by
  unfold ratOrd
  by_cases h1 : x < y <;> by_cases h2 : y < x <;> simp [h1, h2]
  exact absurd h2 (Rat.not_lt.mpr (Rat.le_of_lt h1))
theorem o_bound (x y : Rat) : -1 ≤ ratOrd x y ∧ ratOrd x y ≤ 1 := by
  unfold ratOrd
  split
  · decide
  · split <;> decide
theorem o_zero (x y : Rat) : ratOrd x y = 0 ↔ x = y := by
  unfold ratOrd
  constructor
  · intro h
    by_cases h1 : x < y
    · rw [if_pos h1] at h; cases h
    · by_cases h2 : y < x
      · rw [if_neg h1, if_pos h2] at h; cases h
      · exact Rat.le_antisymm (Rat.not_lt.mp h2) (Rat.not_lt.mp h1)
  · rintro rfl
    rw [if_neg Rat.lt_irrefl, if_neg Rat.lt_irrefl]
theorem o_same {x y x' y' : Rat} (h1 : x' < y' ↔ x < y) (h2 : y' < x' ↔ y < x) : ratOrd x' y' = ratOrd x y := by
  unfold ratOrd
  by_cases a : x < y
  · rw [if_pos a, if_pos (h1.mpr a)]
  · rw [if_neg a, if_neg (fun q => a (h1.mp q))]
    by_cases b : y < x
    · rw [if_pos b, if_pos (h2.mpr b)]
    · rw [if_neg b, if_neg (fun q => b (h2.mp q))]
theorem o_add (x y z : Rat) : ratOrd (x + z) (y + z) = ratOrd x y := o_same Rat.add_lt_add_right Rat.add_lt_add_right
theorem o_mul (x y z : Rat) : ratOrd (x * z) (y * z) = ratOrd x y * ratOrd z 0 := by
  by_cases h : 0 < z
  · have e : ratOrd z 0 = 1 := by unfold ratOrd; rw [if_neg (Rat.not_lt.mpr (Rat.le_of_lt h)), if_pos h]
    rw [e, Int.mul_one]
    exact o_same (Rat.mul_lt_mul_right h) (Rat.mul_lt_mul_right h)
  · by_cases h' : z < 0
    · have e : ratOrd z 0 = -1 := by unfold ratOrd; rw [if_pos h']
      rw [e, Int.mul_neg, Int.mul_one, ← o_flip]
      have hz : 0 < -z := by grind
      have hx : ∀ a b : Rat, a * z < b * z ↔ b < a := fun a b => by
        rw [← Rat.mul_lt_mul_right hz (a := b) (b := a)]
        rw [Rat.mul_neg, Rat.mul_neg, Rat.neg_lt_neg_iff]
      exact o_same (hx x y) (hx y x)
    · have hz : z = 0 := Rat.le_antisymm (Rat.not_lt.mp h) (Rat.not_lt.mp h')
      subst hz
      have e : ratOrd (0 : Rat) 0 = 0 := by decide +kernel
      rw [e, Rat.mul_zero, Rat.mul_zero, e, Int.mul_zero]
theorem o_mid1 (x y : Rat) : ratOrd x ((x + y) / ((2 : Int) : Rat)) = ratOrd x y := by
  have e : ((2 : Int) : Rat) = 2 := rfl
  rw [e]
  exact o_same (by grind) (by grind)
theorem o_mid2 (x y : Rat) : ratOrd ((x + y) / ((2 : Int) : Rat)) y = ratOrd x y := by
  have e : ((2 : Int) : Rat) = 2 := rfl
  rw [e]
  exact o_same (by grind) (by grind)
-- the whole numbers
theorem w_down (x : Rat) : ratOrd ((x.floor : Int) : Rat) x ≤ 0 := by
  unfold ratOrd
  split
  · decide
  · rw [if_neg (Rat.not_lt.mpr (Rat.floor_le x))]; decide
theorem w_up (x : Rat) : ratOrd x ((x.floor + 1 : Int) : Rat) < 0 := by
  unfold ratOrd
  rw [if_pos (Rat.lt_floor_add_one x)]; decide
theorem w_whole (x : Rat) : (x.den = 1) ↔ ratOrd ((x.floor : Int) : Rat) x = 0 := by
  rw [o_zero]
  constructor
  · intro h
    have e : x = ((x.num : Int) : Rat) := Rat.ext rfl h
    rw [e, Rat.floor_intCast]
  · intro h
    rw [← h]; rfl
theorem w_stride (x : Rat) (k : Int) : (x + (k : Rat)).floor = x.floor + k := Rat.floor_add_intCast
theorem w_tz (x : Rat) : ratTz (-x) = -ratTz x := by
  unfold ratTz
  rw [Rat.neg_num, Rat.neg_den, Int.neg_neg]
  by_cases h : x.num < 0
  · rw [if_neg (by omega), if_pos h, Int.neg_neg]
  · by_cases h' : x.num = 0
    · rw [h']; simp
    · rw [if_pos (by omega), if_neg h]
theorem size_neg (x : Rat) : ratSize (-x) = ratSize x := by
  unfold ratSize
  rw [Rat.neg_num, Rat.neg_den]
  congr 2
  by_cases h : x.num < 0
  · rw [if_pos h, if_neg (by omega)]
  · by_cases h' : x.num = 0
    · rw [h']; rfl
    · rw [if_neg h, if_pos (by omega), Int.neg_neg]
theorem w_rnd (x : Rat) : ratRnd (-x) = -ratRnd x := by
  unfold ratRnd
  rw [size_neg, Rat.neg_num]
  by_cases h : x.num < 0
  · rw [if_neg (by omega), if_pos h, Int.neg_neg]
  · by_cases h' : x.num = 0
    · have e : ratSize x = 0 := by
        unfold ratSize
        rw [h']
        have := x.den_nz
        rw [Int.fdiv_eq_ediv_of_nonneg _ (by omega)]
        exact Int.ediv_eq_zero_of_lt (by simp) (by simp; omega)
      rw [h', e]; simp
    · rw [if_pos (by omega), if_neg h]
theorem o_sign (x : Rat) : 0 ≤ ratOrd x 0 ↔ 0 ≤ x := by
  unfold ratOrd
  constructor
  · intro h
    refine Rat.not_lt.mp fun q => ?_
    rw [if_pos q] at h; exact absurd h (by decide)
  · intro h
    rw [if_neg (Rat.not_lt.mpr h)]
    split <;> decide
theorem w_tzs {x : Rat} (h : 0 ≤ x) : ratTz x = x.floor := by
  unfold ratTz
  rw [if_neg (Int.not_lt.mpr (Rat.num_nonneg.mpr h)), floor_is]
theorem floor_divInt {a b : Int} (hb : 0 < b) : (Rat.divInt a b).floor = a / b := by
  rw [Rat.floor_def, Rat.num_divInt, Rat.den_divInt, if_neg (by omega), Int.sign_eq_one_of_pos hb, Int.one_mul, Int.natCast_ediv, Int.natAbs_of_nonneg (by omega)]
  have hg : (0 : Int) < (b.gcd a : Int) := by
    have h1 : b.gcd a ≠ 0 := fun q => by have := (Int.gcd_eq_zero_iff.mp q).1; omega
    omega
  obtain ⟨a', ha⟩ := Int.gcd_dvd_right b a
  obtain ⟨b', hb'⟩ := Int.gcd_dvd_left b a
  generalize (b.gcd a : Int) = g at *
  rw [ha, hb', Int.mul_ediv_cancel_left _ (by omega), Int.mul_ediv_cancel_left _ (by omega), Int.mul_ediv_mul_of_pos _ _ hg]
theorem w_rnds {x : Rat} (h : 0 ≤ x) : ratRnd x = (x + 1 / 2).floor := by
  have hn := Rat.num_nonneg.mpr h
  have hd := x.den_nz
  unfold ratRnd ratSize
  rw [if_neg (by omega), if_neg (by omega), Int.fdiv_eq_ediv_of_nonneg _ (by omega), ← floor_divInt (by omega)]
  congr 1
  have e := Rat.divInt_add_divInt x.num 1 (den_ne x) (d₂ := 2) (by decide)
  rw [Rat.num_divInt_den] at e
  have e2 : Rat.divInt 1 2 = (1 / 2 : Rat) := by decide +kernel
  rw [e2] at e
  rw [e, Int.mul_comm x.num 2, Int.mul_comm (x.den : Int) 2, Int.one_mul]
theorem w_gap1 {x : Rat} (h : 0 ≤ x) : ratOrd (-1 / 2 : Rat) (x - ((ratRnd x : Int) : Rat)) ≤ 0 := by
  rw [w_rnds h]
  have h1 := Rat.floor_le (x + 1 / 2)
  unfold ratOrd
  split
  · decide
  · rw [if_neg]
    · decide
    · grind
theorem w_gap2 {x : Rat} (h : 0 ≤ x) : ratOrd (x - ((ratRnd x : Int) : Rat)) (1 / 2 : Rat) < 0 := by
  rw [w_rnds h]
  have h1 := Rat.lt_floor_add_one (x + 1 / 2)
  unfold ratOrd
  rw [if_pos]
  · decide
  · rw [Rat.intCast_add] at h1
    have e : ((1 : Int) : Rat) = 1 := rfl
    rw [e] at h1
    grind
end Mine
end
section
open PySem PySem.W PyProof.Rows PySem.Calls
namespace Mine
noncomputable abbrev KK (w : World) : Frag := Mine.hd.heap_39 w.params
abbrev tailC : List Value := [.ref 31, .type "Exception", .type "BaseException", .type "object"]
abbrev ClsAt (h : Heap) : Prop := ∃ (nm q : Str) (N : Addr) (bs : List Value) (hdct : Bool) (sn : List Str) (sub : List Value) (ab : Bool) (col : Option Bool) (dd : Option Addr) (k0 k1 k2 k3 k5 : Option Value),
  h.get? 51 = some (excClassObj nm q 51 N bs tailC hdct sn sub ab col dd k0 k1 k2 k3 k5 "Exception.__new__")
theorem cls_at {w : World} {h : Heap} (X : (KK w).In h) : ClsAt h := ⟨_, _, _, _, _, _, _, _, _, _, _, _, _, _, _, X 51 _ rfl⟩
abbrev FE := PySem.F.excBase_Exception
theorem find_init {w : World} : findIn (KK w) (.ref 51) "__init__" = some (some (.ref 48)) := by kernel_rfl
theorem find_init2 {w : World} : findIn (KK w) (.ref 31) "__init__" = some (some (.ref 28)) := by kernel_rfl
theorem type_48 {w : World} : typeIn (KK w) (.ref 48) = some (.type "function") := by kernel_rfl
theorem special_51 {w : World} : specialIn (KK w) (.ref 51) "__call__" = some (some (.builtin "type.__call__")) := by kernel_rfl
theorem inst_51 {w : World} : instIn (KK w) (.ref 51) (.type "type") = some true := by kernel_rfl
theorem find_set {w : World} : findIn (KK w) (.ref 51) "__setattr__" = some (some (.builtin "object.__setattr__")) := by kernel_rfl
theorem find_text {w : World} : findIn (KK w) (.ref 51) "text" = some none := by kernel_rfl
theorem sub_exc {w : World} : mroIn (KK w) 51 (.type "Exception") = some true := by kernel_rfl
theorem sub_base {w : World} : mroIn (KK w) 51 (.type "BaseException") = some true := by kernel_rfl
theorem sub_self {w : World} : mroIn (KK w) 51 (.ref 51) = some true := by kernel_rfl
theorem has_E : tailC.contains (.type "Exception") = true := by decide +kernel
theorem has_A : tailC.contains (.type "AttributeError") = false := by decide +kernel
theorem has_N : tailC.contains (.type "NameError") = false := by decide +kernel
theorem con {v : Value} {b : Bool} (h : tailC.contains v = b) (h' : (v == .ref 51) = false) : (Value.ref 51 :: tailC).contains v = b := by
  rw [List.contains_cons, h, h', Bool.false_or]
abbrev excObj (dict : Option Addr) (t : Addr) : Obj := { cls := .ref 51, dict := dict, data := .fields #[.ref t, .none, .none, .none, .bool false, .none] }
abbrev tupObj (vs : List Value) : Obj := { cls := .type "tuple", data := .seq vs.toArray }
section
variable {prog : Program} {w : World} {A : Around} {R : Result → Shared → Prop} {h : Heap} {g : Array GenState} {d : Drawn} {t : Nat} {os : OsState} {rest : List Value}
theorem exc_new (X : (KK w).In h) (hrest : rest.length ≤ sizeLine) (hq : R (.ok (.ret (.ref (h.objs.size + 1)))) ⟨(h.push (tupObj rest)).push (excObj none h.objs.size), g, d, t, os⟩) :
    codeAny (model prog w) A (.call (.builtin "Exception.__new__") ⟨.ref 51 :: rest, []⟩) R ⟨h, g, d, t, os⟩ := by
  obtain ⟨nm, q, N, bs, hdct, sn, sub, ab, col, dd, k0, k1, k2, k3, k5, hC⟩ := cls_at X
  have F := PySem.F.excBase_Exception
  have hE := con has_E (by decide)
  have hA := con has_A (by decide)
  have hN := con has_N (by decide)
  have hstar := F.noStar
  have hends := F.ends
  refine codeAny_call_builtin_code (Code.quiet_builtin _ F.quiet) ?_
  simp only [checkBuiltinCall, F.newKind, F.newSplit, F.newRow]
  repeat (first | refine wpAny_loadPart_at hC ?_ | (refine wpAny_isSubtype_exc hC ?_; rw [hE]) | refine wpAny_staticBase_exc hC ?_ | refine wpAny_madeBy_exc hC ?_ | simp only [bne_self_eq_false, Bool.false_eq_true, if_false] | wp_step)
  refine codeAny_builtinAt F.entry ?_
  unfold Builtin.«BaseException.__new__»
  refine PySem.wpAt_bind ?_
  show PySem.wpAt _ _ _ (stack >>= _) _ _ _
  refine PySem.wpAt_bind (PySem.wpAt_stack fun p below => PySem.wpAt_of_wpAny ?_)
  wp_walk
  refine PySem.wpAt_of_wpAny ?_
  rw [F.owner]
  repeat (first | with_reducible refine wpAny_madeHere_exc F.canon hC ?_ | with_reducible refine wpAny_loadPart_at hC ?_ | (with_reducible refine wpAny_isSubtype_exc hC ?_; first | rw [hE] | rw [hA] | rw [hN]) | wp_step)
  show R _ _
  rw [Heap.size_push]
  exact hq
theorem exc_make (X : (KK w).In h) (hrest : rest.length ≤ sizeLine)
    (hq : codeAny (model prog w) (A.under (.builtin "type.__call__" ⟨.ref 51 :: rest, []⟩)) (.call (.ref 48) ⟨.ref (h.objs.size + 1) :: rest, []⟩) (InitBack (h.objs.size + 1) R) ⟨(h.push (tupObj rest)).push (excObj none h.objs.size), g, d, t, os⟩) :
    codeAny (model prog w) A (.call (.ref 51) ⟨rest, []⟩) R ⟨h, g, d, t, os⟩ := by
  obtain ⟨nm, q, N, bs, hdct, sn, sub, ab, col, dd, k0, k1, k2, k3, k5, hC⟩ := cls_at X
  have call : Looks (model prog w) h (specialOf (.ref 51) "__call__") (some (.builtin "type.__call__")) := looks_specialIn X special_51
  have typ : Looks (model prog w) h (isInstance (.ref 51) (.type "type")) true := looks_instIn X inst_51
  have made : Looks (model prog w) h (Bind.madeBy (.ref 51)) (some "Exception.__new__") := fun A Q E s k q => wpAny_madeBy_exc (k _ _ hC) q
  have self : Looks (model prog w) h (isSubtype (.ref 51) (.ref 51)) true := looks_mroIn X sub_self
  have hi : Looks (model prog w) h (typeLookup (.ref 51) "__init__") (some (.ref 48)) := looks_findIn X find_init
  refine codeAny_of_tree ?_
  show wpAny _ _ (callAny (.ref 51) _) _ _ _
  refine nd_load hC ?_
  show wpAny _ _ (callAny.viaDunder (.ref 51) _) _ _ _
  unfold callAny.viaDunder
  refine wpAny_bind (call.at ?_)
  dsimp only
  rw [tc_bind]
  refine wpAny_bind (wpAny_pure (wpAny_bind (wpAny_pure ?_)))
  refine wpAny_pure (a := Fin.again (.call (.builtin "type.__call__") ⟨.ref 51 :: rest, []⟩)) (And.intro rfl ?_)
  refine codeAny_call_builtin_at (Code.quiet_builtin _ (by decide +kernel)) entry_typeCall (check_slot tc_kind tc_split typ (tc_args _ _ _) ?_)
  unfold Builtin.«type.__call__»
  have hm : Looks (model prog w) h (mroOf (.ref 51)) (.ref 51 :: tailC) := fun A Q E s k q => wpAny_mroOf_exc (k _ _ hC) q
  repeat (first | simp only [Bool.false_eq_true, if_false] | with_reducible refine wpAny_call ?_ | lk)
  refine exc_new X hrest ?_
  have k : ∀ b o, h.get? b = some o → ((h.push (tupObj rest)).push (excObj none h.objs.size)).get? b = some o := fun b o e => Heap.get?_push_of_some _ (Heap.get?_push_of_some _ e)
  have hx : ((h.push (tupObj rest)).push (excObj none h.objs.size)).get? (h.objs.size + 1) = some (excObj none h.objs.size) := by heap_get
  have t1 : Looks (model prog w) ((h.push (tupObj rest)).push (excObj none h.objs.size)) (typeOf (.ref (h.objs.size + 1))) (.ref 51) := (Looks.ld hx).andThen .now
  have s1 := self.keeps k
  have i1 := hi.keeps k
  have b1 := (bind_fn (M := model prog w) X (.ref (h.objs.size + 1)) type_48).keeps k
  unfold isInstance callSpecial? specialOf
  repeat (first | with_reducible refine wpAny_call ?_ | lk)
  refine codeAny_mono hq fun r s' z => ?_
  rcases r with e | (v | _ | _ | _) <;> first | exact z | exact z.elim | skip
  obtain ⟨rfl, z⟩ := z
  exact wpAny_pure (wpAny_pure z)
end
end Mine
end
section
open PySem PySem.W PyProof.Rows PySem.Calls Builtin Builtin.ObjectAttr
namespace Mine
theorem sub_obj {w : World} : mroIn (KK w) 51 (.type "object") = some true := by kernel_rfl
theorem dict_51 {w : World} : (clsIn (KK w) 51).any (·.hasDict) = true := by kernel_rfl
theorem refuse_exc (self : Value) : refuseLoop self "__setattr__" (.ref 51 :: tailC) = pure () := by
  rw [refuseLoop_ref, refuseLoop_ref]
  exact PySem.F.store_Exception.passes self
section
variable {prog : Program} {w : World} {A : Around} {s : Shared} {h₀ : Heap} {L : Addr} {m : Str → Option Value} {rest : List (Addr × Obj)} {R : Result → Shared → Prop} {E : Value → Shared → Prop} {x dx t : Addr} {name : Str} {v : Value} {es : List DictEntry} {n : Nat} {tk : Tok}
theorem exc_open {ox : Obj} {od : Option Obj} (X : (KK w).In s.heap) (I : InstAt s.heap x ox 51 od) (ha : findIn (KK w) (.ref 51) name = some none)
    (h : wpAny (model prog w) A.in1 (storeInOwnDict (.ref x) (.ref 51) (.str name tk) name v false)
      (fun fin s' => match fin with | .done f => R (.ok f) s' | .again c' => c'.quiet = true ∧ codeAny (model prog w) A c' R s') (fun e s' => R (.error e) s') s) :
    codeAny (model prog w) A (.call (.builtin "object.__setattr__") ⟨[.ref x, .str name tk, v], []⟩) R s := by
  have SF := PySem.F.store_object
  obtain ⟨nm, q, N, bs, hdct, sn, sub, ab, col, dd, k0, k1, k2, k3, k5, hC⟩ := cls_at X
  have sub : Looks (model prog w) s.heap (isInstance (.ref x) (.type "object")) true := I.type.andThen (looks_mroIn X sub_obj)
  refine codeAny_call_builtin SF.slot.plain SF.entry (@check_slot (model prog w) _ _ s "object.__setattr__" "object" "__setattr__" (.ref x) [.str name tk, v] [] _ SF.kind SF.split sub (SF.args (.ref x) (.str name tk) v) ?_)
  have hm : Looks (model prog w) s.heap (mroOf (.ref 51)) (.ref 51 :: tailC) := fun A Q E s k q => wpAny_mroOf_exc (k _ _ hC) q
  rw [osa_eq, refuse_eq]
  refine wpAny_bind (wpAny_bind (I.type.here (wpAny_bind (hm.here ?_))))
  rw [refuse_exc]
  refine wpAny_pure (wpAny_bind (I.type.here (wpAny_bind ((looks_findIn X ha).here (wpAny_bind ?_)))))
  exact wpAny_pure h
theorem exc_put {od od' : Obj} {pre post : List (Addr × Obj)} {Q : PySem.Fin → Shared → Prop} (F : Fr h₀ L s.heap m) (N : News h₀ L s.heap (pre ++ (dx, od) :: post)) (h1 : ∀ p ∈ pre, p.1 ≠ dx) (h2 : ∀ p ∈ post, p.1 ≠ dx)
    (hl : (lookIn name od).isSome = true) (e : Obj.putName name (PyData.keyHash w.params name) (.str name s.toks) v od = od') (e' : od'.data = .dict es.toArray n) (hz : es.length ≤ 1000)
    (h : ∀ h', Fr h₀ L h' m → News h₀ L h' (pre ++ (dx, od') :: post) → Q (.done (.ret .none)) { s with heap := h', toks := s.toks + 1 }) :
    wpAny (model prog w) A (storeInDict dx (.str name tk) name v) Q E s := by
  obtain ⟨U1, U2⟩ := news_upd (f := Obj.putName name (PyData.keyHash w.params name) (.str name s.toks) v) F N h1 h2 e (by obtain ⟨_, _, dd, _⟩ := od'; cases e'; rfl)
  have D := (N (dx, od) (by simp)).1
  have D' := (U2 (dx, od') (by simp)).1
  refine wpAny_bind (wpAny_pure (wpAny_bind ?_))
  unfold nsSet
  refine wpAny_bind (wpAny_bind (wpAny_askSetting (wpAny_pure (wpAny_bind (wpAny_mkText (wpAny_bind (wpAny_loadPart D ?_)))))))
  unfold lookIn at hl
  split at hl
  · rename_i es₀ n₀ q
    rw [q]
    dsimp only
    have c : (!es₀.any (·.key.isStr name) && es₀.any (·.refKey)) = false := by
      rw [← Array.any_toList, ← Array.any_toList]
      split at hl
      · rename_i en he
        rw [List.any_eq_true.mpr ⟨en, List.mem_of_find?_eq_some he, List.find?_some he⟩]; rfl
      · split at hl
        · cases hl
        · rename_i z; rw [Bool.not_eq_true] at z; rw [z, Bool.and_false]
    rw [aRefKeyMayBeTheName_at, c]
    refine wpAny_updatePart D ?_
    refine wpAny_bind (wpAny_lookBehind D' (by rw [e']; exact pastItsLine_dict (by rw [List.size_toArray, sizeLine_eq]; omega)) ?_)
    exact wpAny_pure (h _ U1 U2)
  · cases hl
theorem exc_set {Q : Unit → Shared → Prop} (F : Fr h₀ L s.heap m) (X₀ : (Mine.hd.heap_39 w.params).In h₀) (N : News h₀ L s.heap ((x, excObj (some dx) t) :: (dx, dictOf es n) :: rest)) (hxd : x ≠ dx) (h2 : ∀ p ∈ rest, p.1 ≠ dx)
    (ha : findIn (Mine.hd.heap_39 w.params) (.ref 51) name = some none) (hl : (getL name es).isSome = true) (hz : (putL name (PyData.keyHash w.params name) (.str name (s.toks + 1)) v es).length ≤ 1000)
    (h : ∀ h', Fr h₀ L h' m → News h₀ L h' ((x, excObj (some dx) t) :: (dx, dictOf (putL name (PyData.keyHash w.params name) (.str name (s.toks + 1)) v es) (putN name es n)) :: rest) → Q () { s with heap := h', toks := s.toks + 2 }) :
    wpAny (model prog w) A (setAttr (.ref x) name v) Q E s := by
  have X := X₀.keeps F.keep
  have I : InstAt s.heap x (excObj (some dx) t) 51 (some (dictOf es n)) := ⟨(N _ (.head _)).1, rfl, rfl, (N _ (.tail _ (.head _))).1⟩
  refine set_plain X I find_set (exc_open (s := { s with toks := s.toks + 1 }) X I ha ?_)
  obtain ⟨nm, q, N', bs, hdct, sn, sub, ab, col, dd, k0, k1, k2, k3, k5, hC⟩ := cls_at X
  obtain ⟨cd, hc, hd'⟩ := any_some (dict_51 (w := w))
  refine wpAny_bind (wpAny_pure (wpAny_bind (wpAny_bind (wpAny_loadPart (N _ (.head _)).1 (wpAny_bind (Looks.here (s := { s with toks := s.toks + 1 }) (looks_clsIn X hc) ?_))))))
  rw [hd']
  refine wpAny_pure (a := some dx) ?_
  refine exc_put (s := { s with toks := s.toks + 1 }) (pre := [(x, excObj (some dx) t)]) F N (fun p hp => by rcases List.mem_cons.mp hp with rfl | hp; exact hxd; cases hp) h2 hl (putName_dict ..) rfl hz fun h' F' N' => h h' F' N'
theorem exc_set0 {Q : Unit → Shared → Prop} (F : Fr h₀ L s.heap m) (X₀ : (Mine.hd.heap_39 w.params).In h₀) (N : News h₀ L s.heap ((x, excObj none t) :: rest)) (h2 : ∀ p ∈ rest, p.1 ≠ x)
    (ha : findIn (Mine.hd.heap_39 w.params) (.ref 51) name = some none)
    (h : ∀ dx h', Fr h₀ L h' m → News h₀ L h' ((x, excObj (some dx) t) :: (dx, dictOf (putL name (PyData.keyHash w.params name) (.str name (s.toks + 1)) v []) (putN name [] 0)) :: rest) → x < dx → (∀ p ∈ rest, p.1 < dx) → Q () { s with heap := h', toks := s.toks + 2 }) :
    wpAny (model prog w) A (setAttr (.ref x) name v) Q E s := by
  have X := X₀.keeps F.keep
  have I : InstAt s.heap x (excObj none t) 51 none := ⟨(N _ (.head _)).1, rfl, rfl, trivial⟩
  refine set_plain X I find_set (exc_open (s := { s with toks := s.toks + 1 }) X I ha ?_)
  obtain ⟨cd, hc, hd'⟩ := any_some (dict_51 (w := w))
  have hx := (N _ (.head _)).1
  refine wpAny_bind (wpAny_pure (wpAny_bind (wpAny_bind (wpAny_loadPart hx (wpAny_bind (Looks.here (s := { s with toks := s.toks + 1 }) (looks_clsIn X hc) ?_))))))
  rw [hd']
  have hlx : x < s.heap.objs.size := Heap.lt_size hx
  have N1 := N.push F emptyDict
  have F1 := F.push emptyDict
  have N2 : News h₀ L (s.heap.push emptyDict) ([(s.heap.objs.size, emptyDict)] ++ (x, excObj none t) :: rest) := N1
  obtain ⟨U1, U2⟩ := news_upd (f := fun o => { o with dict := some s.heap.objs.size }) (o' := excObj (some s.heap.objs.size) t) F1 N2 (fun p hp => by rcases List.mem_cons.mp hp with rfl | hp; exact Nat.ne_of_gt hlx; cases hp) h2 rfl rfl
  have N3 : News h₀ L ((s.heap.push emptyDict).update x fun o => { o with dict := some s.heap.objs.size }) ((x, excObj (some s.heap.objs.size) t) :: (s.heap.objs.size, dictOf [] 0) :: rest) := fun p hp => by
    refine U2 p ?_
    rcases List.mem_cons.mp hp with rfl | hp
    · exact .tail _ (.head _)
    · rcases List.mem_cons.mp hp with rfl | hp
      · exact .head _
      · exact .tail _ (.tail _ hp)
  refine wpAny_bind (wpAny_alloc (wpAny_bind (wpAny_update (Heap.get?_push_of_some _ hx) (wpAny_pure ?_))))
  have hlt : ∀ p ∈ rest, p.1 < s.heap.objs.size := fun p hp => Heap.lt_size (N p (.tail _ hp)).1
  refine exc_put (s := { s with heap := (s.heap.push emptyDict).update x fun o => { o with dict := some s.heap.objs.size }, toks := s.toks + 1 }) (pre := [(x, excObj (some s.heap.objs.size) t)]) U1 N3 (fun p hp => by rcases List.mem_cons.mp hp with rfl | hp; exact Nat.ne_of_lt hlx; cases hp) (fun p hp => Nat.ne_of_lt (hlt p hp)) rfl (putName_dict ..) rfl (Nat.le_of_ble_eq_true rfl) fun h' F' N' => h _ h' F' N' hlx hlt
theorem exc_init {c : Value} {Q : Value → Shared → Prop} (F : Fr h₀ L s.heap m) (X₀ : (Mine.hd.heap_39 w.params).In h₀) (N : News h₀ L s.heap ((x, excObj none t) :: rest)) (h2 : ∀ p ∈ rest, p.1 ≠ x)
    (h : ∀ t' h', Fr h₀ L h' m → News h₀ L h' ((x, excObj none t') :: rest) → Q .none { s with heap := h' }) :
    wpAny (model prog w) A (call (.builtin "Exception.__init__") [.ref x, c]) Q E s := by
  obtain ⟨hh, g, d, tk', os⟩ := s
  have X := X₀.keeps F.keep
  have FF := PySem.F.excBase_Exception
  have hx := (N _ (.head _)).1
  obtain ⟨nm, q, N', bs, hdct, sn, sub, ab, col, dd, k0, k1, k2, k3, k5, hC⟩ := cls_at X
  have hE := con has_E (by decide)
  have hshort := FF.noStar
  have N1 := N.push F (tupObj [c])
  have F1 := F.push (tupObj [c])
  have hlx : x < hh.objs.size := Heap.lt_size hx
  obtain ⟨U1, U2⟩ := news_upd (f := Obj.mapFields (·.setIfInBounds 0 (.ref hh.objs.size))) (pre := [(hh.objs.size, tupObj [c])]) (o' := excObj none hh.objs.size) F1 N1 (fun p hp => by rcases List.mem_cons.mp hp with rfl | hp; exact Nat.ne_of_gt hlx; cases hp) h2 rfl rfl
  have fin := h hh.objs.size _ U1 (fun p hp => U2 p (.tail _ hp))
  refine wpAny_call (codeAny_call_builtin FF.init.plain FF.initEntry ?_)
  simp only [checkBuiltinCall, FF.initKind, FF.initSplit, FF.initRow]
  repeat (first | with_reducible refine wpAny_loadPart_at hx ?_ | with_reducible refine wpAny_loadPart_at hC ?_ | (with_reducible refine wpAny_isSubtype_exc hC ?_; rw [hE]) | wp_step)
  exact fin
end
end Mine
end
section
open PySem PySem.W PyProof.Rows PySem.Calls
namespace Mine
theorem call_ada {prog : Program} {w : World} {A : Around} {s : Shared} {h₀ : Heap} {L : Addr} {m : Str → Option Value} {news : List (Addr × Obj)} {Q E : Value → Shared → Prop} {pos : List Value}
    (F : Fr h₀ L s.heap m) (X₀ : (Mine.hd.heap_39 w.params).In h₀) (N : News h₀ L s.heap news) (hrest : pos.length ≤ sizeLine)
    (h : ∀ x t h', Fr h₀ L h' m → News h₀ L h' ((x, excObj none t) :: (t, tupObj pos) :: news) → (∀ p ∈ news, p.1 < t) → t < x →
      codeAny (model prog w) (A.under (.builtin "type.__call__" ⟨.ref 51 :: pos, []⟩)) (.call (.ref 48) ⟨.ref x :: pos, []⟩) (InitBack x fun r s' => match r with | .ok (.ret v) => Q v s' | .ok _ => False | .error e => E e s') { s with heap := h' }) :
    wpAny (model prog w) A (call (.ref 51) pos []) Q E s := by
  obtain ⟨hh, g, d, t, os⟩ := s
  refine wpAny_call (exc_make (X₀.keeps F.keep) hrest (h _ hh.objs.size _ ((F.push _).push _) ?_ (fun p hp => Heap.lt_size (N p hp).1) (Nat.lt_succ_self _)))
  have := (N.push F (tupObj pos)).push (F.push _) (excObj none hh.objs.size)
  rwa [Heap.size_push] at this
theorem drop2 {h₀ h : Heap} {L : Addr} {a b c : Addr × Obj} {news : List (Addr × Obj)} (N : News h₀ L h (a :: b :: c :: news)) : News h₀ L h (a :: news) := fun p hp => by
  rcases List.mem_cons.mp hp with rfl | hp
  · exact N _ (.head _)
  · exact N _ (.tail _ (.tail _ (.tail _ hp)))
theorem all_ne {rest : List (Addr × Obj)} {d : Addr} (h : ∀ p ∈ rest, p.1 < d) : ∀ p ∈ rest, p.1 ≠ d := fun p hp => Nat.ne_of_lt (h p hp)
variable {w : World} {mean : ExcName → Option Value} {mg mb : Str → Option Value}
abbrev RetAda (h₀ : Heap) (L : Addr) (m : Str → Option Value) (news : List (Addr × Obj)) (s : Shared) (Q _E : Value → Shared → Prop) : Prop :=
  ∀ (e d t : Addr) (h' : Heap) (tk' : Nat), Fr h₀ L h' m → News h₀ L h' ((e, excObj (some d) t) :: news) → (∀ p ∈ news, p.1 < e) → Q (.ref e) { s with heap := h', toks := tk' }
section
theorem rows_E2_1 : True := by
  k_with_none
  k_with "call ref" => (k_here; (with_reducible show wpAny _ _ (call (Value.ref 28) [_, _]) _ _ _); refine wpAny_call ?_; k_dflt (refine' code_def ?k1 ?k2 ?k3 ?k4 ?k5 ?kA ?kF ?kK ?k6 ?k7 ?k8 ?k9 ?kB ?_ ?c2 ?c3 ?c4 ?c5; (case kA => exact rfl); (case kF => exact rfl); (case kK => first | exact rfl | assumption); (case k1 => k_asm); (case k2 => k_asm); (case k3 => k_asm); (case k4 => k_asm); (case k5 => k_asm); (case k6 => k_is); (case k7 => k_is); (case k8 => ktr_room); (case k9 => exact BindsTo.of_eq rfl); (case c5 => decide); (case kB => exact locs rfl); (case c2 => exact rfl); (case c3 => exact rfl); (case c4 => exact rfl); k_whole; intro g' L' h' FG' F' N' B' X' T'; (try dsimp only); (try k_fold)))
  exact trivial
theorem type_exc : typeOf (.type "Exception") = pure (.type "type") := by kernel_rfl
theorem find_excinit {w : World} : findCls (Mine.hd.heap_39 w.params) (.type "Exception") (.type "type") (Str.ofString "__init__") = some (.val (.builtin "Exception.__init__")) := by kernel_rfl
theorem rows_E2_2 : True := by
  k_with "getMethod type:Exception" => (k_here; k_dflt (refine' method_type ?F ?X ?m (by decide +kernel) ?e ?h ?_; (case F => k_asm); (case X => k_asm); (case m => exact type_exc); (case e => exact find_excinit); (case h => k_handed)); (try dsimp only))
  k_with "call builtin:Exception.__init__" => (k_here; k_dflt (refine' exc_init ?F ?X ?N ?h2 ?_; (case F => k_asm); (case X => k_asm); (case N => k_asm); (case h2 => assumption)); intro t7 h7 F7 N7; (try dsimp only))
  k_with "setAttr ref" => (k_here; k_dflt (first
    | (refine' exc_set0 ?F ?X ?N ?h2 ?ha ?_; (case F => k_asm); (case X => k_asm); (case N => k_asm); (case h2 => assumption); (case ha => kernel_rfl); intro d7 h7 F7 N7 l7 l8; (have l9 := Nat.ne_of_lt l7); (have l10 := all_ne l8))
    | (refine' exc_set ?F ?X ?N ?h1 ?h2 ?ha ?hl ?hz ?_; (case F => k_asm); (case X => k_asm); (case N => k_asm); (case h1 => assumption); (case h2 => assumption); (case ha => kernel_rfl); (case hl => rfl); (case hz => exact Nat.le_of_ble_eq_true rfl); intro h7 F7 N7)); (try dsimp only))
  exact trivial
set_option maxRecDepth 100000 in
set_option maxHeartbeats 400000 in
theorem ada_spec {a' b c : Value} : CallAt w mean mg mb 51 [a', b, c] 6 RetAda := by
  unfold CallAt RetAda
  k_fill
  intro dp un gd cn cs a ccd cl outer A₀ base h₀ L m news s Q E B F X N T hk hd hu hret
  refine call_ada F X N (by show 3 ≤ sizeLine; rw [sizeLine_eq]; omega) ?_
  intro x1 t1 h1 F1 N1 l1 l2
  have l3 : ∀ p ∈ ((t1, tupObj [a', b, c]) :: news), p.1 ≠ x1 := fun p hp => by
    rcases List.mem_cons.mp hp with rfl | hp
    · exact Nat.ne_of_lt l2
    · exact Nat.ne_of_lt (Nat.lt_trans (l1 p hp) l2)
  k_dflt ktr_enter
  k_steps
  all_goals exact hret _ _ _ _ _ (by k_asm) (drop2 (by k_asm)) (fun p hp => Nat.lt_trans (l1 p hp) l2)
theorem rows_E2_3 : True := by
  k_with_none
  exact trivial
end
end Mine
end
section
open PySem PySem.W PyProof.Rows PySem.Calls
namespace Mine
abbrev framesOf (l : List Env) : List Addr := l.filterMap (·.frame)
/-- an AdaRaise flies out of a call that the frame of env made: what stands then -/
structure Raised (h₀ : Heap) (L : Addr) (m : Str → Option Value) (news : List (Addr × Obj)) (env : Env) (outer : List Env) (e : Addr) (h' : Heap) : Prop where
  fly : ∃ B t, (∀ b o, h₀.get? b = some o → b ∉ framesOf outer → B.get? b = some o) ∧ (∀ p ∈ news, B.get? p.1 = some p.2) ∧ Heap.FlyingW B (env :: outer) e (.ref 51) (.ref t) h'
  slots : h₀.UpToSlots h'
  ns : h'.Ns L m
theorem ns_frame {g : Heap} {L : Addr} {m : Str → Option Value} (F : g.Ns L m) : ∃ o, g.get? L = some o := let ⟨o, _, _, ho, _⟩ := F; ⟨o, ho⟩
section
variable {M : Model} {A A₀ : Around} {E : Value → Shared → Prop} {s : Shared} {base h₀ g h : Heap} {env : Env} {outer : List Env} {L L' a e : Addr} {m m' : Str → Option Value} {name : Str} {scope : Scope} {cd : Value} {Q : Unit → Shared → Prop} {news news' : List (Addr × Obj)} {d : Option Addr} {t : Addr}
theorem leave_first (K : Below A base (env :: outer) g) (hL : env.frame = some L) (FG : Fr h₀ L g m) (F : Fr g L' s.heap m') (N : News g L' s.heap ((e, excObj d t) :: news')) (hsub : ∀ p ∈ news, p ∈ news') (hlt : ∀ p ∈ news, p.1 < e)
    (hQ : ∀ h', Raised h₀ L m news env outer e h' → Q () { s with heap := h' }) (hk : scope.kind = .function := by rfl) :
    wpAny M (A.deeper (envOf name scope L' a cd)) (leaving (envOf name scope L' a cd) (.ref e)) Q E s := by
  have K' := K.push (name := name) (a := a) (cd := cd) F hk
  have he := (N _ (.head _)).1
  have hge : g.get? e = none := (N _ (.head _)).2.2
  have hgL : g.get? L' = none := by
    cases q : g.get? L' with
    | none => rfl
    | some o => exact absurd (Nat.lt_of_lt_of_le (Heap.lt_size q) F.above) (Nat.lt_irrefl _)
  have inG : ∀ b, b ∈ framesOf (env :: outer) → ∃ o, g.get? b = some o := fun b hb => by
    obtain ⟨_, o, ho, _⟩ := K.frames.mem hb
    exact ⟨o, ho⟩
  have notG : ∀ b, b ∈ e :: framesOf (envOf name scope L' a cd :: env :: outer) → b = e ∨ b = L' ∨ b ∈ framesOf (env :: outer) := fun b hb => by
    rcases List.mem_cons.mp hb with q | q
    · exact .inl q
    · obtain ⟨env', he', hf⟩ := List.mem_filterMap.mp q
      rcases List.mem_cons.mp he' with rfl | he'
      · exact .inr (.inl (Option.some.inj hf).symm)
      · exact .inr (.inr (List.mem_filterMap.mpr ⟨env', he', hf⟩))
  have hB0 : ∀ b o, g.get? b = some o → b ∉ framesOf (env :: outer) → (hideAll s.heap (e :: framesOf (envOf name scope L' a cd :: env :: outer))).get? b = some o := fun b o q n => by
    refine hideAll_get _ (F.keep b o q) fun hm => ?_
    rcases notG b hm with rfl | rfl | hm
    · rw [hge] at q; cases q
    · rw [hgL] at q; cases q
    · exact n hm
  have hB1 : ∀ p ∈ news, (hideAll s.heap (e :: framesOf (envOf name scope L' a cd :: env :: outer))).get? p.1 = some p.2 := fun p hp => by
    have P := N p (.tail _ (hsub p hp))
    refine hideAll_get _ P.1 fun hm => ?_
    rcases notG p.1 hm with q | q | hm
    · exact absurd q (Nat.ne_of_lt (hlt p hp))
    · exact P.2.1 q
    · obtain ⟨o, ho⟩ := inG _ hm
      rw [P.2.2] at ho; cases ho
  refine wpAny_leaving_firstW (base := hideAll s.heap (e :: framesOf (envOf name scope L' a cd :: env :: outer))) (a0 := .ref t) K'.stack (funFrames_hide K'.frames fun env' he' b hb => ?_) rfl he (fun b o q => of_hideAll _ q) (hideAll_none _ (.head _)) rfl rfl rfl fun h' hL' => ?_
  · exact .tail _ (List.mem_filterMap.mpr ⟨env', he', hb⟩)
  · obtain ⟨k1, ⟨_, _, k2⟩, k3, k4⟩ := hL'
    have up : g.UpToSlots h' := (Heap.UpToSlots.of_keeps F.keep).trans k4
    refine hQ h' ⟨⟨_, t, fun b o q n => hB0 b o (FG.keep b o q) fun hm => ?_, hB1, k1, hideAll_none _ (.head _), k2, k3⟩, (Heap.UpToSlots.of_keeps FG.keep).trans up, up.ns FG.ns⟩
    obtain ⟨env', he', hf⟩ := List.mem_filterMap.mp hm
    rcases List.mem_cons.mp he' with rfl | he'
    · rw [hL] at hf
      cases hf
      exact absurd (Nat.lt_of_lt_of_le (Heap.lt_size q) FG.above) (Nat.lt_irrefl _)
    · exact n (List.mem_filterMap.mpr ⟨env', he', hf⟩)
theorem leave_next (K : Below A base (env :: outer) g) (hL : env.frame = some L) (FG : Fr h₀ L g m) (R : Raised g L' m' news' (envOf name scope L' a cd) (env :: outer) e s.heap) (hsub : ∀ p ∈ news, p ∈ news')
    (hQ : ∀ h', Raised h₀ L m news env outer e h' → Q () { s with heap := h' }) :
    wpAny M (A.deeper (envOf name scope L' a cd)) (leaving (envOf name scope L' a cd) (.ref e)) Q E s := by
  obtain ⟨⟨B, t, hB0, hB1, hfl⟩, hup, _⟩ := R
  refine wpAny_leaves_onW (Around.frames_deeper K.stack) rfl hfl fun h' hfl' up' => ?_
  have up : g.UpToSlots h' := hup.trans up'
  refine hQ h' ⟨⟨B, t, fun b o q n => hB0 b o (FG.keep b o q) fun hm => ?_, fun p hp => hB1 p (hsub p hp), hfl'⟩, (Heap.UpToSlots.of_keeps FG.keep).trans up, up.ns FG.ns⟩
  obtain ⟨env', he', hf⟩ := List.mem_filterMap.mp hm
  rcases List.mem_cons.mp he' with rfl | he'
  · rw [hL] at hf
    cases hf
    exact absurd (Nat.lt_of_lt_of_le (Heap.lt_size q) FG.above) (Nat.lt_irrefl _)
  · exact n (List.mem_filterMap.mpr ⟨env', he', hf⟩)
end
/-- a call that raises an AdaRaise -/
abbrev CallX (w : World) (mean : ExcName → Option Value) (mg mb : Str → Option Value) (f : Addr) (vs : List Value) (depth : Nat) (P : List (Addr × Obj) → Prop) : Prop :=
  ∀ (dp un : Nat) (gd : Option (List Code)) (cn : Str) (cs : Scope) (a : Addr) (ccd : Value) (cl : List (Str × Addr)) (outer : List Env) (A₀ : Around) (base h₀ : Heap) (L : Addr) (m : Str → Option Value) (news : List (Addr × Obj)) (s : Shared) (Q E : Value → Shared → Prop),
    Below A₀ base outer h₀ → Fr h₀ L s.heap m → (Mine.hd.heap_39 w.params).In h₀ → News h₀ L s.heap news → Top Mine.hd.view_39 (looseW Mine.hd.view_39 [Str.ofString "GREATEST"]) mean mg mb h₀ → cs.kind = .function →
    P news → dp + depth < recursionLimit → un + 8 * depth < cLine → (∀ e h' tk', Raised h₀ L m news (envX cn cs L a ccd cl) outer e h' → E (.ref e) { s with heap := h', toks := tk' }) →
      wpAny (model PySem.Challenge.rw_sa0001_01.row.prog w) (ktrTop dp un gd cn cs L a ccd cl outer) (call (.ref f) vs) Q E s
def RaisableA (E : Value → Shared → Prop) (v : Value) (s₁ : Shared) : Prop :=
  ∃ x d t, v = .ref x ∧ ClsAt s₁.heap ∧ s₁.heap.get? x = some (excObj d t) ∧ E (.ref x) s₁
theorem raise_ada {M : Model} {A : Around} {E : Value → Shared → Prop} {s : Shared} {env : Env} {e : PySem.Expr} {pos : Pos} {Q : Flow → Shared → Prop} (hh : A.handled = none)
    (h : wpAny M A (eval e env) (RaisableA E) E s) : wpAny M A (exec (.Raise (some e) none pos) env) Q E s := by
  show wpAny M A (do standAt pos; raiseStmt env (some (do let v ← eval e env; standAt pos; pure v)) none) Q E s
  refine wpAny_bind (wpAny_standAt ?_)
  unfold raiseStmt
  dsimp only
  refine wpAny_bind (wpAny_bind (wpAny_mono h (fun v s₁ h₁ => wpAny_bind (wpAny_standAt (wpAny_pure ?_))) fun _ _ x => x))
  obtain ⟨x, d, t, rfl, ⟨nm, q, N, bs, hdct, sn, sub, ab, col, dd, k0, k1, k2, k3, k5, hC⟩, he, hE⟩ := h₁
  obtain ⟨hp, g, dr, tk, os⟩ := s₁
  have hcB : (Value.ref 51 :: tailC).contains (.type "BaseException") = true := con (by decide +kernel) (by decide)
  repeat (first | with_reducible refine wpAny_loadPart_at he ?_ | with_reducible refine wpAny_loadPart_at hC ?_ | (with_reducible refine wpAny_isSubtype_exc hC ?_; rw [hcB]) | wp_step)
  exact wpAny_raiseNew_none hh hE
theorem raisableA_of {w : World} {E : Value → Shared → Prop} {s : Shared} {g : Heap} {L' x t : Addr} {d : Option Addr} {m' : Str → Option Value} {news : List (Addr × Obj)} (F : Fr g L' s.heap m') (X : (Mine.hd.heap_39 w.params).In g)
    (N : News g L' s.heap ((x, excObj d t) :: news)) (h : E (.ref x) s) : RaisableA E (.ref x) s :=
  ⟨_, _, _, rfl, cls_at (w := w) (X.keeps F.keep), (N _ (.head _)).1, h⟩
variable {w : World} {mean : ExcName → Option Value} {mg mb : Str → Option Value}
section
theorem rows_E4_1 : True := by
  k_with_none
  k_with "call ref" => (k_here; (with_reducible show wpAny _ _ (call (Value.ref 51) [_, _, _]) _ _ _); k_dflt (refine' callAt_use ada_spec ?k1 ?k2 ?k3 ?k4 ?k5 ?kK ?kd ?ku ?_; (case k1 => k_asm); (case k2 => k_asm); (case k3 => k_asm); (case k4 => k_asm); (case k5 => k_asm); (case kK => first | exact rfl | assumption); (case kd => first | exact roomK (by with_reducible assumption) rfl | ktr_room); (case ku => first | exact unitsK (by with_reducible assumption) rfl | ktr_units)); intro e9 d9 t9 h9 tk9 F9 N9 l9; (try dsimp only); (try k_fold))
  k_with "exec Raise some none" => (k_here; refine raise_ada rfl ?_)
  exact trivial
set_option maxRecDepth 100000 in
set_option maxHeartbeats 400000 in
theorem make_x {x : Int} {tx ty : Tok} : CallX w mean mg mb 67 [.int x tx, .int 0 ty] 9 (fun _ => True) := by
  unfold CallX
  k_fill
  intro dp un gd cn cs a ccd cl outer A₀ base h₀ L m news s Q E B F X N T hk _ hd hu hret
  refine wpAny_call ?_
  k_dflt ktr_enter
  k_steps
  all_goals
    refine' raisableA_of ?hF ?hX ?hN ?_
    case hF => k_asm
    case hX => k_asm
    case hN => k_asm
    k_dflt (refine' leave_first ?b1 ?b2 ?b3 ?b4 ?b5 ?b6 ?b7 ?b8)
    case b1 => k_asm
    case b2 => exact rfl
    case b3 => k_asm
    case b4 => k_asm
    case b5 => k_asm
    case b6 => exact fun p hp => hp
    case b7 => assumption
    case b8 => intro h8 R8; exact hret _ _ _ R8
theorem rows_E4_2 : True := by
  k_with_none
  exact trivial
end
end Mine
end
section
namespace Mine
theorem callX_use {w : World} {mean : ExcName → Option Value} {mg mb : Str → Option Value} {f : Addr} {vs : List Value} {depth : Nat} {P : List (Addr × Obj) → Prop}
    {dp un : Nat} {gd : Option (List Code)} {cn : Str} {cs : Scope} {a : Addr} {ccd : Value} {cl : List (Str × Addr)} {outer : List Env} {A₀ : Around} {base h₀ : Heap} {L : Addr} {m : Str → Option Value} {news : List (Addr × Obj)} {s : Shared} {Q E : Value → Shared → Prop}
    (C : CallX w mean mg mb f vs depth P)
    (B : Below A₀ base outer h₀) (F : Fr h₀ L s.heap m) (X : (Mine.hd.heap_39 w.params).In h₀) (N : News h₀ L s.heap news) (T : Top Mine.hd.view_39 (looseW Mine.hd.view_39 [Str.ofString "GREATEST"]) mean mg mb h₀) (hk : cs.kind = .function)
    (hP : P news) (hd : dp + depth < recursionLimit) (hu : un + 8 * depth < cLine) (ret : ∀ e h' tk', Raised h₀ L m news (envX cn cs L a ccd cl) outer e h' → E (.ref e) { s with heap := h', toks := tk' }) :
    wpAny (model PySem.Challenge.rw_sa0001_01.row.prog w) (ktrTop dp un gd cn cs L a ccd cl outer) (call (.ref f) vs) Q E s :=
  C dp un gd cn cs a ccd cl outer A₀ base h₀ L m news s Q E B F X N T hk hP hd hu ret
theorem mul_nought {a b : Int} (h : b = 0) : a * b = 0 := by rw [h, Int.mul_zero]
variable {w : World} {mean : ExcName → Option Value} {mg mb : Str → Option Value}
theorem make_x' {x y : Int} {tx ty : Tok} (hy : y = 0) : CallX w mean mg mb 67 [.int x tx, .int y ty] 9 (fun _ => True) := by
  subst hy
  exact make_x
section
theorem rows_E5_1 : True := by
  k_with_none
  k_with "subscriptTail Name Constant ref int" => (k_here; (with_reducible first | (refine' rat_num ?k1 ?k2 ?k3 ?k4 ?k5 ?_ ?k8 ?k9; (case k5 => rfl)) | (refine' rat_den ?k1 ?k2 ?k3 ?k4 ?k5 ?_ ?k8 ?k9; (case k5 => rfl))); (case k8 => with_unfolding_all rfl); (case k9 => intro _; with_unfolding_all rfl); (case k1 => k_asm); (case k2 => k_asm); (case k3 => k_asm); (case k4 => k_asm); intro t7; (try dsimp only))
  k_with "binaryOp Mult int int" => (k_here; (with_reducible refine mul_int ?_ ?m0); (case m0 => exact sz_mulok (by with_reducible assumption) (by with_reducible assumption)); (try dsimp only))
  k_with "call ref" => (k_here; (with_reducible show wpAny _ _ (call (Value.ref 67) [Value.int _ _, Value.int _ _]) _ _ _); k_dflt (refine' callX_use (make_x' ?hy) ?k1 ?k2 ?k3 ?k4 ?k5 ?kK ?kP ?kd ?ku ?_; (case k1 => k_asm); (case k2 => k_asm); (case k3 => k_asm); (case k4 => k_asm); (case k5 => k_asm); (case kK => first | exact rfl | assumption); (case hy => exact mul_nought (by with_reducible assumption)); (case kP => exact trivial); (case kd => first | exact roomK (by with_reducible assumption) rfl | ktr_room); (case ku => first | exact unitsK (by with_reducible assumption) rfl | ktr_units)); intro e9 h9 tk9 R9; (try dsimp only); (try k_fold))
  exact trivial
set_option maxRecDepth 100000 in
set_option maxHeartbeats 1000000 in
theorem quot_x {x y : Rat} {bx by' : Addr} (hx : Sz 340 x) (hy : Sz 340 y) (hy0 : y = 0) : CallX w mean mg mb 95 [.ref bx, .ref by'] 10 (fun news => RatIn w news bx x ∧ RatIn w news by' y) := by
  have hn := Rat.num_eq_zero.mpr hy0
  have hx1 := hx.n (by decide)
  have hx2 := hx.d (by decide)
  have hy1 := hy.n (by decide)
  have hy2 := hy.d (by decide)
  unfold CallX
  k_fill
  rintro dp un gd cn cs a ccd cl outer A₀ base h₀ L m news s Q E B F X N T hk ⟨R1, R2⟩ hd hu hret
  refine wpAny_call ?_
  k_dflt ktr_enter
  k_steps
  all_goals
    k_dflt (refine' leave_next (news := news) ?b1 ?b2 ?b3 ?b4 ?b5 ?b6)
    case b1 => k_asm
    case b2 => exact rfl
    case b3 => k_asm
    case b4 => k_asm
    case b5 => exact fun p hp => (by (repeat' first | exact hp | apply List.Mem.tail))
    case b6 => intro h8 R8; exact hret _ _ _ R8
theorem rows_E5_2 : True := by
  k_with_none
  exact trivial
end
section
theorem rows_E5_3 : True := by
  k_with_none
  k_with "call ref" => (k_here; (with_reducible show wpAny _ _ (call (Value.ref 95) [Value.ref _, Value.ref _]) _ _ _); k_dflt (refine' callX_use (quot_x ?z1 ?z2 ?z3) ?k1 ?k2 ?k3 ?k4 ?k5 ?kK ?kP ?kd ?ku ?_; (case k1 => k_asm); (case k2 => k_asm); (case k3 => k_asm); (case k4 => k_asm); (case k5 => k_asm); (case kK => first | exact rfl | assumption); (case kP => (refine ⟨?_, ?_⟩ <;> (first | with_reducible assumption | with_reducible exact RatIn.nought | exact RatIn.of_mem (by k_mem) | exact RatIn.of_int (by k_mem) | exact RatIn.of_half (by k_mem) | exact RatIn.of_mhalf (by k_mem) | exact RatIn.mono (by with_reducible assumption) (fun _ h8 => by (repeat' first | exact h8 | apply List.Mem.tail))))); (case z1 => (with_reducible first | assumption | exact Sz.mono (by assumption) (by decide))); (case z2 => (with_reducible first | assumption | exact Sz.mono (by assumption) (by decide))); (case z3 => with_reducible assumption); (case kd => first | exact roomK (by with_reducible assumption) rfl | ktr_room); (case ku => first | exact unitsK (by with_reducible assumption) rfl | ktr_units)); intro e9 h9 tk9 R9; (try dsimp only); (try k_fold))
  exact trivial
set_option maxRecDepth 100000 in
set_option maxHeartbeats 1000000 in
theorem power_x {x : Rat} {bx : Addr} {n : Int} {tn : Tok} (hx : Sz 340 x) (hx0 : x = 0) (hn : n < 0) : CallX w mean mg mb 109 [.ref bx, .int n tn] 11 (fun news => RatIn w news bx x) := by
  have s1 : Sz 340 ((1 : Int) : Rat) := sz_1.mono (by decide)
  unfold CallX
  k_fill
  rintro dp un gd cn cs a ccd cl outer A₀ base h₀ L m news s Q E B F X N T hk R1 hd hu hret
  refine wpAny_call ?_
  k_dflt ktr_enter
  k_steps
  all_goals
    k_dflt (refine' leave_next (news := news) ?b1 ?b2 ?b3 ?b4 ?b5 ?b6)
    case b1 => k_asm
    case b2 => exact rfl
    case b3 => k_asm
    case b4 => k_asm
    case b5 => exact fun p hp => (by (repeat' first | exact hp | apply List.Mem.tail))
    case b6 => intro h8 R8; exact hret _ _ _ R8
theorem rows_E5_4 : True := by
  k_with_none
  exact trivial
end
end Mine
end
section
namespace Mine
section
variable {prog : Program} {w : World} {A A₀ : Around} {s : Shared} {K : Frag} {L : Addr} {h₀ base : Heap} {m mg mb : Str → Option Value} {news : List (Addr × Obj)} {mean : ExcName → Option Value} {p : Program} {loose : List Str}
/-- a call of a def, the end left as it comes -/
theorem code_raw {env : Env} {outer : List Env} {R : Result → Shared → Prop} {name qual : Str} {params : Arguments} {body : List Stmt} {scope : Scope} {dV kV doc pm cdv ct oc : Value} {an od : Option Addr} {osl : Array (Option Value)} {f : Addr} {args : Args} {binds : List (Str × Value)}
    (B : Below A₀ base outer h₀) (F : Fr h₀ L s.heap m) (X₀ : K.In h₀) (N : News h₀ L s.heap news) (T : Top p loose mean mg mb h₀) (hA : A.frames = some (env :: outer)) (hf : env.frame = some L) (hke : env.scope.kind = .function)
    (ho : K.lookup f = some ⟨oc, od, .func (fnOf name qual params body scope dV kV doc pm an cdv ct), osl⟩) (hcd : codeIn K cdv qual = true) (hroom : A.depth < recursionLimit)
    (hbind : BindsTo s (fnOf name qual params body scope dV kV doc pm an cdv ct) args binds) (hloc : ∀ y ∈ binds, scope.names.lookup y.1 = some .local)
    (h : ∀ g L' h₁, Fr h₀ L g m → Fr g L' h₁ (fun y => binds.reverse.lookup y) → News g L' h₁ news → Below A base (env :: outer) g → K.In g → Top p loose mean mg mb g →
      wpAny (model prog w) (A.deeper (envOf qual scope L' f cdv)) (execs body (envOf qual scope L' f cdv))
        (fun fl s' => R (.ok (.ret (match fl with | .ret v => v | _ => .none))) s')
        (fun e s' => wpAny (model prog w) (A.deeper (envOf qual scope L' f cdv)) (leaving (envOf qual scope L' f cdv) e) (fun _ s'' => R (.error e) s'') (fun e' s'' => R (.error e') s'') s')
        { s with heap := h₁, toks := s.toks + binds.length })
    (hco : scope.isCoroutine = false) (hgen : scope.isGenerator = false) (hk : scope.kind = .function)
    (hcell : ∀ x ∈ scope.names, x.2 ≠ .cell) : codeAny (model prog w) A (.call (.ref f) args) R s := by
  obtain ⟨FG, BG, st, _⟩ := groundX (R := R) B F N hA hf hke
  refine codeAny_call_def (fd := fnOf name qual params body scope dV kV doc pm an cdv ct) (body := body) (binds := binds) hroom ((X₀.keeps F.keep) _ _ ho) rfl (T.nolimit.keeps F.keep) (codeRec_of (X₀.keeps F.keep) hcd) rfl hbind hcell hloc (fun h₁ hns hk₁ => ?_) hco hgen hk
  exact h _ s.heap.objs.size h₁ FG ⟨hns, fun b o e => hk₁ b o (of_hideAll _ e), Nat.le_of_eq (hideAll_size _ _)⟩
    (fun p hp => ⟨hk₁ _ _ (N p hp).1, Nat.ne_of_lt (Heap.lt_size (N p hp).1), hideAll_none _ (List.mem_map_of_mem hp)⟩) BG (X₀.keeps st) (T.keeps st)
end
/-- what a call keeps that caught a raise: all but the slots of the frames -/
structure Kept (h₀ : Heap) (outer : List Env) (news : List (Addr × Obj)) (h' : Heap) : Prop where
  keep : ∀ b o, h₀.get? b = some o → b ∉ framesOf outer → h'.get? b = some o
  slots : h₀.UpToSlots h'
  news : ∀ p ∈ news, h'.get? p.1 = some p.2
theorem Kept.out {h₀ g h' : Heap} {L : Addr} {m : Str → Option Value} {env : Env} {outer : List Env} {news : List (Addr × Obj)} (hL : env.frame = some L) (FG : Fr h₀ L g m) (K : Kept g (env :: outer) news h') : Kept h₀ outer news h' := by
  obtain ⟨k1, k2, k3⟩ := K
  refine ⟨fun b o q n => k1 b o (FG.keep b o q) fun hm => ?_, (Heap.UpToSlots.of_keeps FG.keep).trans k2, k3⟩
  obtain ⟨env', he', hf⟩ := List.mem_filterMap.mp hm
  rcases List.mem_cons.mp he' with rfl | he'
  · rw [hL] at hf
    cases hf
    exact absurd (Nat.lt_of_lt_of_le (Heap.lt_size q) FG.above) (Nat.lt_irrefl _)
  · exact n (List.mem_filterMap.mpr ⟨env', he', hf⟩)
theorem frames_none {h₀ H h : Heap} {L : Addr} {m : Str → Option Value} {env : Env} {outer : List Env} (hL : env.frame = some L) (F : Fr h₀ L h m) (hH : ∀ b o, H.get? b = some o → h₀.get? b = some o) (hHf : ∀ b ∈ framesOf outer, H.get? b = none) : ∀ b ∈ framesOf (env :: outer), H.get? b = none := fun b hb => by
  obtain ⟨env', he', hf⟩ := List.mem_filterMap.mp hb
  rcases List.mem_cons.mp he' with rfl | he'
  · rw [hL] at hf
    cases hf
    cases q : H.get? L with
    | none => rfl
    | some o => exact absurd (Nat.lt_of_lt_of_le (Heap.lt_size (hH _ _ q)) F.above) (Nat.lt_irrefl _)
  · exact hHf b (List.mem_filterMap.mpr ⟨env', he', hf⟩)
theorem name_ada {w : World} : nsIn (Mine.hd.heap_39 w.params) mainGlobals (Str.ofString "AdaRaise") = some (some (.ref 51)) := by kernel_rfl
section
variable {prog : Program} {w : World} {A : Around} {E : Value → Shared → Prop} {s : Shared} {base g H : Heap} {env : Env} {outer : List Env} {L' a e : Addr} {m' mg mb : Str → Option Value} {name : Str} {scope : Scope} {cd : Value} {Q : Flow → Shared → Prop} {news' : List (Addr × Obj)}
  {mean : ExcName → Option Value} {p : Program} {loose : List Str} {np pos : Pos} {b₀ : Stmt} {suite : List Stmt} {rest : List ExceptHandler}
theorem caught_ada (K : Below A base (env :: outer) g) (R : Raised g L' m' news' (envOf name scope L' a cd) (env :: outer) e s.heap)
    (hH : ∀ b o, H.get? b = some o → g.get? b = some o) (hHf : ∀ b ∈ framesOf (env :: outer), H.get? b = none) (hHL : H.objs.size ≤ L') (XH : (Mine.hd.heap_39 w.params).In H) (TH : Top p loose mean mg mb H)
    (k : ∀ h', Kept g (env :: outer) news' h' → Fr H L' h' m' → wpAny (model prog w) ((A.deeper (envOf name scope L' a cd)).mark (some (.ref e))) (execs (b₀ :: suite) (envOf name scope L' a cd)) Q (fun _ _ => False) { s with heap := h' })
    (hk : scope.kind = .function) (hx : (envOf name scope L' a cd).kindOf (Str.ofString "AdaRaise") = some .globalImplicit) :
    wpAny (model prog w) (A.deeper (envOf name scope L' a cd)) (noteFrame (.ref e) (envOf name scope L' a cd))
      (fun _ s₂ => wpAny (model prog w) (A.deeper (envOf name scope L' a cd)) (setFlight (.ref e) none) (fun _ s₃ =>
        wpAny (model prog w) (A.deeper (envOf name scope L' a cd)) (handleBy (.ref e) (envOf name scope L' a cd) (.ExceptHandler (some (.Name (Str.ofString "AdaRaise") np)) none (b₀ :: suite) pos :: rest)) Q E s₃) E s₂) E s := by
  obtain ⟨⟨B, t, hB0, hB1, hfl⟩, hup, hns⟩ := R
  have hHB : ∀ b o, H.get? b = some o → B.get? b = some o := fun b o q => hB0 b o (hH b o q) fun hm => by rw [hHf b hm] at q; cases q
  refine wpAny_looks_onW (Around.frames_deeper K.stack) rfl hfl fun h₄ hheld₄ hsm₄ => ?_
  refine wpAny_landsW hheld₄ fun h₅ hheld hsm₅' => ?_
  have hsm₅ := hsm₄.trans hsm₅'
  have F₅ : Fr H L' h₅ m' := ⟨hsm₅.ns hns, fun b o q => hheld.1 b o (hHB b o q), hHL⟩
  obtain ⟨ob, hob, hobc⟩ := hheld.there
  refine wpAny_handleBy_cons (codeAny_handlers_test (name_K F₅ XH (topRead_of TH) name_ada ?_ hk hx (by decide))) (by intro q; cases q)
  obtain ⟨nm, q, N, bs, hdct, sn, sub, ab, col, dd, k0, k1, k2, k3, k5, hC⟩ := cls_at (XH.keeps F₅.keep)
  refine wpAny_excMatches_sub_self hC hob hobc (by decide +kernel) (codeAny_handlers_suite ?_)
  refine lands_againW hheld fun h₆ hfl₆ hsm₆ => ?_
  exact wpAny_mono (k h₆ ⟨fun b o q n => hfl₆.1 b o (hB0 b o q n), (hup.trans hsm₅).trans hsm₆, fun p hp => hfl₆.1 _ _ (hB1 p hp)⟩ ⟨(hsm₅.trans hsm₆).ns hns, fun b o q => hfl₆.1 b o (hHB b o q), hHL⟩) (fun _ _ x => x) fun _ _ x => x.elim
end
/-- a call that catches -/
abbrev CallK (w : World) (mean : ExcName → Option Value) (mg mb : Str → Option Value) (f : Addr) (vs : List Value) (depth : Nat) (P : List (Addr × Obj) → Prop) : Prop :=
  ∀ (dp un : Nat) (gd : Option (List Code)) (cn : Str) (cs : Scope) (a : Addr) (ccd : Value) (cl : List (Str × Addr)) (outer : List Env) (A₀ : Around) (base h₀ H : Heap) (L : Addr) (m : Str → Option Value) (news : List (Addr × Obj)) (s : Shared) (Q E : Value → Shared → Prop),
    Below A₀ base outer h₀ → Fr h₀ L s.heap m → (Mine.hd.heap_39 w.params).In h₀ → News h₀ L s.heap news → Top Mine.hd.view_39 (looseW Mine.hd.view_39 [Str.ofString "GREATEST"]) mean mg mb h₀ → cs.kind = .function →
    P news → dp + depth < recursionLimit → un + 8 * depth < cLine →
    (∀ b o, H.get? b = some o → h₀.get? b = some o) → (∀ b ∈ framesOf outer, H.get? b = none) → H.objs.size ≤ h₀.objs.size → (Mine.hd.heap_39 w.params).In H → Top Mine.hd.view_39 (looseW Mine.hd.view_39 [Str.ofString "GREATEST"]) mean mg mb H →
    (∀ h' tk', Kept h₀ outer news h' → Q (.bool true) { s with heap := h', toks := tk' }) →
      wpAny (model PySem.Challenge.rw_sa0001_01.row.prog w) (ktrTop dp un gd cn cs L a ccd cl outer) (call (.ref f) vs) Q E s
variable {w : World} {mean : ExcName → Option Value} {mg mb : Str → Option Value}
section
theorem rows_E6_1 : True := by
  k_with_none
  k_with "call ref" => (k_here; (with_reducible show wpAny _ _ (call (Value.ref 95) [Value.ref _, Value.ref _]) _ _ _); k_dflt (refine' callX_use (quot_x ?z1 ?z2 ?z3) ?k1 ?k2 ?k3 ?k4 ?k5 ?kK ?kP ?kd ?ku ?_; (case k1 => k_asm); (case k2 => k_asm); (case k3 => k_asm); (case k4 => k_asm); (case k5 => k_asm); (case kK => first | exact rfl | assumption); (case kP => (refine ⟨?_, ?_⟩ <;> (first | with_reducible assumption | with_reducible exact RatIn.nought | exact RatIn.of_mem (by k_mem) | exact RatIn.of_int (by k_mem) | exact RatIn.of_half (by k_mem) | exact RatIn.of_mhalf (by k_mem) | exact RatIn.mono (by with_reducible assumption) (fun _ h8 => by (repeat' first | exact h8 | apply List.Mem.tail))))); (case z1 => (with_reducible first | assumption | exact Sz.mono (by assumption) (by decide))); (case z2 => (with_reducible first | assumption | exact Sz.mono (by assumption) (by decide))); (case z3 => with_reducible assumption); (case kd => first | exact roomK (by with_reducible assumption) rfl | ktr_room); (case ku => first | exact unitsK (by with_reducible assumption) rfl | ktr_units)); intro e9 h9 tk9 R9; (try dsimp only); (try k_fold))
  exact trivial
set_option maxRecDepth 100000 in
set_option maxHeartbeats 400000 in
theorem refq_spec {x y : Rat} {bx by' : Addr} (hx : Sz 340 x) (hy : Sz 340 y) (hy0 : y = 0) : CallK w mean mg mb 167 [.ref 95, .ref bx, .ref by'] 14 (fun news => RatIn w news bx x ∧ RatIn w news by' y) := by
  unfold CallK
  k_fill
  rintro dp un gd cn cs a ccd cl outer A₀ base h₀ H L m news s Q E B F X N T hk ⟨R1, R2⟩ hd hu hH hHf hHs XH TH hret
  refine wpAny_call ?_
  k_dflt (refine' code_raw ?k1 ?k2 ?k3 ?k4 ?k5 ?kA ?kF ?kK ?k6 ?k7 ?k8 ?k9 ?kB ?_ ?c2 ?c3 ?c4 ?c5; (case kA => exact rfl); (case kF => exact rfl); (case kK => first | exact rfl | assumption); (case k1 => k_asm); (case k2 => k_asm); (case k3 => k_asm); (case k4 => k_asm); (case k5 => k_asm); (case k6 => k_is); (case k7 => k_is); (case k8 => ktr_room); (case k9 => exact BindsTo.of_eq rfl); (case c5 => decide); (case kB => exact locs rfl); (case c2 => exact rfl); (case c3 => exact rfl); (case c4 => exact rfl); k_whole; intro g' L' h' FG' F' N' B' X' T'; (try dsimp only); (try k_fold))
  k_steps
  all_goals
    k_dflt (refine' caught_ada (H := H) ?b1 ?b2 ?b3 ?b4 ?b5 ?b6 ?b7 ?b8 ?b9 ?b10)
    case b1 => k_asm
    case b2 => k_asm
    case b3 => exact fun b o q => FG'.keep b o (hH b o q)
    case b4 => exact frames_none rfl F hH hHf
    case b5 => exact Nat.le_trans hHs (Nat.le_trans F.above (Nat.le_trans (Nat.le_of_lt FG'.ns.lt) F'.above))
    case b6 => assumption
    case b7 => assumption
    case b9 => exact rfl
    case b10 => exact rfl
    intro h8 K8 F8
    try dsimp only
  k_steps
  all_goals exact hret _ _ (K8.out rfl FG')
theorem rows_E6_2 : True := by
  k_with_none
  exact trivial
end
section
theorem rows_E6_3 : True := by
  k_with_none
  k_with "call ref" => (k_here; (with_reducible show wpAny _ _ (call (Value.ref 109) [Value.ref _, Value.int _ _]) _ _ _); k_dflt (refine' callX_use (power_x ?z1 ?z2 ?z3) ?k1 ?k2 ?k3 ?k4 ?k5 ?kK ?kP ?kd ?ku ?_; (case k1 => k_asm); (case k2 => k_asm); (case k3 => k_asm); (case k4 => k_asm); (case k5 => k_asm); (case kK => first | exact rfl | assumption); (case kP => (first | with_reducible assumption | with_reducible exact RatIn.nought | exact RatIn.of_mem (by k_mem) | exact RatIn.of_int (by k_mem) | exact RatIn.of_half (by k_mem) | exact RatIn.of_mhalf (by k_mem) | exact RatIn.mono (by with_reducible assumption) (fun _ h8 => by (repeat' first | exact h8 | apply List.Mem.tail)))); (case z1 => (with_reducible first | assumption | exact Sz.mono (by assumption) (by decide))); (case z2 => with_reducible assumption); (case z3 => with_reducible assumption); (case kd => first | exact roomK (by with_reducible assumption) rfl | ktr_room); (case ku => first | exact unitsK (by with_reducible assumption) rfl | ktr_units)); intro e9 h9 tk9 R9; (try dsimp only); (try k_fold))
  exact trivial
set_option maxRecDepth 100000 in
set_option maxHeartbeats 400000 in
theorem refp_spec {x : Rat} {bx : Addr} {n : Int} {tn : Tok} (hx : Sz 340 x) (hx0 : x = 0) (hn : n < 0) : CallK w mean mg mb 167 [.ref 109, .ref bx, .int n tn] 14 (fun news => RatIn w news bx x) := by
  unfold CallK
  k_fill
  rintro dp un gd cn cs a ccd cl outer A₀ base h₀ H L m news s Q E B F X N T hk R1 hd hu hH hHf hHs XH TH hret
  refine wpAny_call ?_
  k_dflt (refine' code_raw ?k1 ?k2 ?k3 ?k4 ?k5 ?kA ?kF ?kK ?k6 ?k7 ?k8 ?k9 ?kB ?_ ?c2 ?c3 ?c4 ?c5; (case kA => exact rfl); (case kF => exact rfl); (case kK => first | exact rfl | assumption); (case k1 => k_asm); (case k2 => k_asm); (case k3 => k_asm); (case k4 => k_asm); (case k5 => k_asm); (case k6 => k_is); (case k7 => k_is); (case k8 => ktr_room); (case k9 => exact BindsTo.of_eq rfl); (case c5 => decide); (case kB => exact locs rfl); (case c2 => exact rfl); (case c3 => exact rfl); (case c4 => exact rfl); k_whole; intro g' L' h' FG' F' N' B' X' T'; (try dsimp only); (try k_fold))
  k_steps
  all_goals
    k_dflt (refine' caught_ada (H := H) ?b1 ?b2 ?b3 ?b4 ?b5 ?b6 ?b7 ?b8 ?b9 ?b10)
    case b1 => k_asm
    case b2 => k_asm
    case b3 => exact fun b o q => FG'.keep b o (hH b o q)
    case b4 => exact frames_none rfl F hH hHf
    case b5 => exact Nat.le_trans hHs (Nat.le_trans F.above (Nat.le_trans (Nat.le_of_lt FG'.ns.lt) F'.above))
    case b6 => assumption
    case b7 => assumption
    case b9 => exact rfl
    case b10 => exact rfl
    intro h8 K8 F8
    try dsimp only
  k_steps
  all_goals exact hret _ _ (K8.out rfl FG')
theorem rows_E6_4 : True := by
  k_with_none
  exact trivial
end
end Mine
end
section
namespace Mine
/-- a call from the law's own frame, at the foot of the stack -/
abbrev CallT (w : World) (mean : ExcName → Option Value) (mg mb : Str → Option Value) (f : Addr) (vs : List Value) (depth : Nat) (P : List (Addr × Obj) → Prop)
    (Ret : Heap → Addr → (Str → Option Value) → List (Addr × Obj) → Shared → (Value → Shared → Prop) → (Value → Shared → Prop) → Prop) : Prop :=
  ∀ (dp un : Nat) (gd : Option (List Code)) (cn : Str) (cs : Scope) (a : Addr) (ccd : Value) (cl : List (Str × Addr)) (A₀ : Around) (base h₀ : Heap) (L : Addr) (m : Str → Option Value) (news : List (Addr × Obj)) (s : Shared) (Q E : Value → Shared → Prop),
    Below A₀ base [] h₀ → Fr h₀ L s.heap m → (Mine.hd.heap_39 w.params).In h₀ → News h₀ L s.heap news → Top Mine.hd.view_39 (looseW Mine.hd.view_39 [Str.ofString "GREATEST"]) mean mg mb h₀ → cs.kind = .function →
    P news → dp + depth < recursionLimit → un + 8 * depth < cLine → Ret h₀ L m news s Q E →
      wpAny (model PySem.Challenge.rw_sa0001_01.row.prog w) (ktrTop dp un gd cn cs L a ccd cl []) (call (.ref f) vs) Q E s
theorem CallP.foot {w : World} {mean : ExcName → Option Value} {mg mb : Str → Option Value} {f : Addr} {vs : List Value} {depth : Nat} {P : List (Addr × Obj) → Prop}
    {Ret : Heap → Addr → (Str → Option Value) → List (Addr × Obj) → Shared → (Value → Shared → Prop) → (Value → Shared → Prop) → Prop} (C : CallP w mean mg mb f vs depth P Ret) : CallT w mean mg mb f vs depth P Ret :=
  fun dp un gd cn cs a ccd cl A₀ base h₀ L m news s Q E => C dp un gd cn cs a ccd cl [] A₀ base h₀ L m news s Q E
theorem callK_use {w : World} {mean : ExcName → Option Value} {mg mb : Str → Option Value} {f : Addr} {vs : List Value} {depth : Nat} {P : List (Addr × Obj) → Prop}
    {dp un : Nat} {gd : Option (List Code)} {cn : Str} {cs : Scope} {a : Addr} {ccd : Value} {cl : List (Str × Addr)} {outer : List Env} {A₀ : Around} {base h₀ H : Heap} {L : Addr} {m : Str → Option Value} {news : List (Addr × Obj)} {s : Shared} {Q E : Value → Shared → Prop}
    (C : CallK w mean mg mb f vs depth P)
    (B : Below A₀ base outer h₀) (F : Fr h₀ L s.heap m) (X : (Mine.hd.heap_39 w.params).In h₀) (N : News h₀ L s.heap news) (T : Top Mine.hd.view_39 (looseW Mine.hd.view_39 [Str.ofString "GREATEST"]) mean mg mb h₀) (hk : cs.kind = .function)
    (hP : P news) (hd : dp + depth < recursionLimit) (hu : un + 8 * depth < cLine) (hH : ∀ b o, H.get? b = some o → h₀.get? b = some o) (hHf : ∀ b ∈ framesOf outer, H.get? b = none) (hHs : H.objs.size ≤ h₀.objs.size)
    (XH : (Mine.hd.heap_39 w.params).In H) (TH : Top Mine.hd.view_39 (looseW Mine.hd.view_39 [Str.ofString "GREATEST"]) mean mg mb H) (ret : ∀ h' tk', Kept h₀ outer news h' → Q (.bool true) { s with heap := h', toks := tk' }) :
    wpAny (model PySem.Challenge.rw_sa0001_01.row.prog w) (ktrTop dp un gd cn cs L a ccd cl outer) (call (.ref f) vs) Q E s :=
  C dp un gd cn cs a ccd cl outer A₀ base h₀ H L m news s Q E B F X N T hk hP hd hu hH hHf hHs XH TH ret
theorem foot_frames {h₀ h : Heap} {L : Addr} {m : Str → Option Value} {env : Env} (hL : env.frame = some L) (F : Fr h₀ L h m) : ∀ b ∈ framesOf [env], h₀.get? b = none :=
  frames_none hL F (fun _ _ q => q) (fun _ hb => nomatch hb)
theorem kept_fr {h₀ g h' : Heap} {L : Addr} {m : Str → Option Value} {env : Env} {news : List (Addr × Obj)} (hL : env.frame = some L) (FG : Fr h₀ L g m) (K : Kept g [env] news h') : Fr h₀ L h' m := by
  refine ⟨K.slots.ns FG.ns, fun b o q => K.keep b o (FG.keep b o q) fun hm => ?_, FG.above⟩
  rw [foot_frames hL FG b hm] at q; cases q
theorem kept_news {h₀ g h h' : Heap} {L L' : Addr} {m : Str → Option Value} {env : Env} {news news' : List (Addr × Obj)} (FG : Fr h₀ L g m) (N : News g L' h news') (K : Kept g [env] news' h') (hsub : ∀ p ∈ news, p ∈ news') : News h₀ L h' news := fun p hp => by
  have P := N p (hsub p hp)
  refine ⟨K.news p (hsub p hp), fun q => ?_, ?_⟩
  · obtain ⟨o, ho⟩ := ns_frame FG.ns
    rw [q, ho] at P
    exact nomatch P.2.2
  · cases q : h₀.get? p.1 with
    | none => rfl
    | some o => have := FG.keep _ _ q; rw [P.2.2] at this; cases this
variable {w : World} {mean : ExcName → Option Value} {mg mb : Str → Option Value}
theorem rat_other {prog : Program} {A : Around} {E : Value → Shared → Prop} {s : Shared} {Q : Value → Shared → Prop} {h₀ : Heap} {L : Addr} {m : Str → Option Value} {news : List (Addr × Obj)} {b b' : Addr} {x y : Rat} (R : RatIn w news b x) (R' : RatIn w news b' y) (F : Fr h₀ L s.heap m) (X : (Mine.hd.heap_39 w.params).In h₀) (N : News h₀ L s.heap news) (hu : A.units + 64 < cLine) (e : x ≠ y)
    (h : Q (.bool false) s) : wpAny (model prog w) A (compareOp .Eq (.ref b) (.ref b')) Q E s :=
  rat_eq R R' F X N hu (by rw [decide_eq_false e]; exact h)
section
theorem rows_L2_1 : True := by
  k_with_none
  k_with "call ref" => (k_here; (with_reducible show wpAny _ _ (call (Value.ref 74) [Value.ref _, Value.ref _]) _ _ _); k_dflt (refine' callP_use (sum_spec ?z1 ?z2) ?k1 ?k2 ?k3 ?k4 ?k5 ?kK ?kP ?kd ?ku ?_; (case k1 => k_asm); (case k2 => k_asm); (case k3 => k_asm); (case k4 => k_asm); (case k5 => k_asm); (case kK => first | exact rfl | assumption); (case kP => (refine ⟨?_, ?_⟩ <;> (first | with_reducible assumption | with_reducible exact RatIn.nought | exact RatIn.of_mem (by k_mem) | exact RatIn.of_int (by k_mem) | exact RatIn.of_half (by k_mem) | exact RatIn.of_mhalf (by k_mem) | exact RatIn.mono (by with_reducible assumption) (fun _ h8 => by (repeat' first | exact h8 | apply List.Mem.tail))))); (case z1 => (with_reducible first | assumption | exact Sz.mono (by assumption) (by decide))); (case z2 => (with_reducible first | assumption | exact Sz.mono (by assumption) (by decide))); (case kd => first | exact roomK (by with_reducible assumption) rfl | ktr_room); (case ku => first | exact unitsK (by with_reducible assumption) rfl | ktr_units)); intro b9 t9 u9 h9 tk9 F9 N9 l9; (try dsimp only); (try k_fold))
  k_with "call ref" => (k_here; (with_reducible show wpAny _ _ (call (Value.ref 81) [Value.ref _, Value.ref _]) _ _ _); k_dflt (refine' callP_use (diff_spec ?z1 ?z2) ?k1 ?k2 ?k3 ?k4 ?k5 ?kK ?kP ?kd ?ku ?_; (case k1 => k_asm); (case k2 => k_asm); (case k3 => k_asm); (case k4 => k_asm); (case k5 => k_asm); (case kK => first | exact rfl | assumption); (case kP => (refine ⟨?_, ?_⟩ <;> (first | with_reducible assumption | with_reducible exact RatIn.nought | exact RatIn.of_mem (by k_mem) | exact RatIn.of_int (by k_mem) | exact RatIn.of_half (by k_mem) | exact RatIn.of_mhalf (by k_mem) | exact RatIn.mono (by with_reducible assumption) (fun _ h8 => by (repeat' first | exact h8 | apply List.Mem.tail))))); (case z1 => (with_reducible first | assumption | exact Sz.mono (by assumption) (by decide))); (case z2 => (with_reducible first | assumption | exact Sz.mono (by assumption) (by decide))); (case kd => first | exact roomK (by with_reducible assumption) rfl | ktr_room); (case ku => first | exact unitsK (by with_reducible assumption) rfl | ktr_units)); intro b9 t9 u9 h9 tk9 F9 N9 l9; (try dsimp only); (try k_fold))
  k_with "call ref" => (k_here; (with_reducible show wpAny _ _ (call (Value.ref 88) [Value.ref _, Value.ref _]) _ _ _); k_dflt (refine' callP_use (prod_spec ?z1 ?z2) ?k1 ?k2 ?k3 ?k4 ?k5 ?kK ?kP ?kd ?ku ?_; (case k1 => k_asm); (case k2 => k_asm); (case k3 => k_asm); (case k4 => k_asm); (case k5 => k_asm); (case kK => first | exact rfl | assumption); (case kP => (refine ⟨?_, ?_⟩ <;> (first | with_reducible assumption | with_reducible exact RatIn.nought | exact RatIn.of_mem (by k_mem) | exact RatIn.of_int (by k_mem) | exact RatIn.of_half (by k_mem) | exact RatIn.of_mhalf (by k_mem) | exact RatIn.mono (by with_reducible assumption) (fun _ h8 => by (repeat' first | exact h8 | apply List.Mem.tail))))); (case z1 => (with_reducible first | assumption | exact Sz.mono (by assumption) (by decide))); (case z2 => (with_reducible first | assumption | exact Sz.mono (by assumption) (by decide))); (case kd => first | exact roomK (by with_reducible assumption) rfl | ktr_room); (case ku => first | exact unitsK (by with_reducible assumption) rfl | ktr_units)); intro b9 t9 u9 h9 tk9 F9 N9 l9; (try dsimp only); (try k_fold))
  k_with "call ref" => (k_here; (with_reducible show wpAny _ _ (call (Value.ref 95) [Value.ref _, Value.ref _]) _ _ _); k_dflt (refine' callP_use (quot_spec ?z1 ?z2 ?z3) ?k1 ?k2 ?k3 ?k4 ?k5 ?kK ?kP ?kd ?ku ?_; (case k1 => k_asm); (case k2 => k_asm); (case k3 => k_asm); (case k4 => k_asm); (case k5 => k_asm); (case kK => first | exact rfl | assumption); (case kP => (refine ⟨?_, ?_⟩ <;> (first | with_reducible assumption | with_reducible exact RatIn.nought | exact RatIn.of_mem (by k_mem) | exact RatIn.of_int (by k_mem) | exact RatIn.of_half (by k_mem) | exact RatIn.of_mhalf (by k_mem) | exact RatIn.mono (by with_reducible assumption) (fun _ h8 => by (repeat' first | exact h8 | apply List.Mem.tail))))); (case z1 => (with_reducible first | assumption | exact Sz.mono (by assumption) (by decide))); (case z2 => (with_reducible first | assumption | exact Sz.mono (by assumption) (by decide))); (case z3 => first | with_reducible assumption | exact two_ne); (case kd => first | exact roomK (by with_reducible assumption) rfl | ktr_room); (case ku => first | exact unitsK (by with_reducible assumption) rfl | ktr_units)); intro b9 t9 u9 h9 tk9 F9 N9 l9; (try dsimp only); (try k_fold))
  k_with "call ref" => (k_here; (with_reducible show wpAny _ _ (call (Value.ref 102) [Value.ref _]) _ _ _); k_dflt (refine' callP_use (neg_spec ?z1) ?k1 ?k2 ?k3 ?k4 ?k5 ?kK ?kP ?kd ?ku ?_; (case k1 => k_asm); (case k2 => k_asm); (case k3 => k_asm); (case k4 => k_asm); (case k5 => k_asm); (case kK => first | exact rfl | assumption); (case kP => (first | with_reducible assumption | with_reducible exact RatIn.nought | exact RatIn.of_mem (by k_mem) | exact RatIn.of_int (by k_mem) | exact RatIn.of_half (by k_mem) | exact RatIn.of_mhalf (by k_mem) | exact RatIn.mono (by with_reducible assumption) (fun _ h8 => by (repeat' first | exact h8 | apply List.Mem.tail)))); (case z1 => (with_reducible first | assumption | exact Sz.mono (by assumption) (by decide))); (case kd => first | exact roomK (by with_reducible assumption) rfl | ktr_room); (case ku => first | exact unitsK (by with_reducible assumption) rfl | ktr_units)); intro b9 t9 u9 h9 tk9 F9 N9 l9; (try dsimp only); (try k_fold))
  k_with "compareOp Eq ref ref" => (k_here; (with_reducible refine' rat_same ?r1 ?r2 ?k2 ?k3 ?k4 ?ku ?e0 ?_); (case k2 => k_asm); (case k3 => k_asm); (case k4 => k_asm); k_dflt ((case r1 => (first | with_reducible assumption | with_reducible exact RatIn.nought | exact RatIn.of_mem (by k_mem) | exact RatIn.of_int (by k_mem) | exact RatIn.of_half (by k_mem) | exact RatIn.of_mhalf (by k_mem) | exact RatIn.mono (by with_reducible assumption) (fun _ h8 => by (repeat' first | exact h8 | apply List.Mem.tail)))); (case r2 => (first | with_reducible assumption | with_reducible exact RatIn.nought | exact RatIn.of_mem (by k_mem) | exact RatIn.of_int (by k_mem) | exact RatIn.of_half (by k_mem) | exact RatIn.of_mhalf (by k_mem) | exact RatIn.mono (by with_reducible assumption) (fun _ h8 => by (repeat' first | exact h8 | apply List.Mem.tail))))); (case ku => first | exact unitsK (by with_reducible assumption) rfl | ktr_units); (case e0 => first | with_reducible assumption | with_reducible rfl | fail "same"); (try dsimp only))
  k_with "compareOp NotEq ref ref" => (k_here; (with_reducible refine' rat_differ ?r1 ?r2 ?k2 ?k3 ?k4 ?ku ?e0 ?_); (case k2 => k_asm); (case k3 => k_asm); (case k4 => k_asm); k_dflt ((case r1 => (first | with_reducible assumption | with_reducible exact RatIn.nought | exact RatIn.of_mem (by k_mem) | exact RatIn.of_int (by k_mem) | exact RatIn.of_half (by k_mem) | exact RatIn.of_mhalf (by k_mem) | exact RatIn.mono (by with_reducible assumption) (fun _ h8 => by (repeat' first | exact h8 | apply List.Mem.tail)))); (case r2 => (first | with_reducible assumption | with_reducible exact RatIn.nought | exact RatIn.of_mem (by k_mem) | exact RatIn.of_int (by k_mem) | exact RatIn.of_half (by k_mem) | exact RatIn.of_mhalf (by k_mem) | exact RatIn.mono (by with_reducible assumption) (fun _ h8 => by (repeat' first | exact h8 | apply List.Mem.tail))))); (case ku => first | exact unitsK (by with_reducible assumption) rfl | ktr_units); (case e0 => first | with_reducible assumption | with_reducible rfl | fail "same"); (try dsimp only))
  k_with "compareOp Eq ref ref" => (k_here; (with_reducible refine' rat_other ?r1 ?r2 ?k2 ?k3 ?k4 ?ku ?e0 ?_); (case k2 => k_asm); (case k3 => k_asm); (case k4 => k_asm); k_dflt ((case r1 => (first | with_reducible assumption | with_reducible exact RatIn.nought | exact RatIn.of_mem (by k_mem) | exact RatIn.of_int (by k_mem) | exact RatIn.of_half (by k_mem) | exact RatIn.of_mhalf (by k_mem) | exact RatIn.mono (by with_reducible assumption) (fun _ h8 => by (repeat' first | exact h8 | apply List.Mem.tail)))); (case r2 => (first | with_reducible assumption | with_reducible exact RatIn.nought | exact RatIn.of_mem (by k_mem) | exact RatIn.of_int (by k_mem) | exact RatIn.of_half (by k_mem) | exact RatIn.of_mhalf (by k_mem) | exact RatIn.mono (by with_reducible assumption) (fun _ h8 => by (repeat' first | exact h8 | apply List.Mem.tail))))); (case ku => first | exact unitsK (by with_reducible assumption) rfl | ktr_units); (case e0 => with_reducible assumption); (try dsimp only))
  exact trivial
set_option maxRecDepth 100000 in
set_option maxHeartbeats 1000000 in
theorem field_some {x y z : Rat} {bx by' bz : Addr} (hx : Sz 12 x) (hy : Sz 12 y) (hz : Sz 12 z) (hy0 : y ≠ 0) : CallP w mean mg mb 181 [.ref bx, .ref by', .ref bz] 26 (fun news => RatIn w news bx x ∧ RatIn w news by' y ∧ RatIn w news bz z) (RetBool true) := by
  have s0 : Sz 340 (x) := (hx).mono (by decide)
  have s1 : Sz 340 (y) := (hy).mono (by decide)
  have s2 : Sz 340 (z) := (hz).mono (by decide)
  have s3 : Sz 340 (x + y) := (sz_add hx hy).mono (by decide)
  have s4 : Sz 340 (y + z) := (sz_add hy hz).mono (by decide)
  have s5 : Sz 340 (x * y) := (sz_mul hx hy).mono (by decide)
  have s6 : Sz 340 (y * z) := (sz_mul hy hz).mono (by decide)
  have s7 : Sz 340 (x * z) := (sz_mul hx hz).mono (by decide)
  have s8 : Sz 340 (-x) := (sz_neg hx).mono (by decide)
  have s9 : Sz 340 (y - x) := (sz_sub hy hx).mono (by decide)
  have s10 : Sz 340 (x / y) := (sz_div hx hy).mono (by decide)
  have e1 := f_add_comm x y
  have e2 := f_add_assoc x y z
  have e3 := f_mul_comm x y
  have e4 := f_mul_assoc x y z
  have e5 := f_spread x y z
  have e6 := f_undo x y
  have e7 := f_neg x
  have e8 := f_turn x y
  clear hx hy hz
  have e9 := f_quot (x := x) hy0
  have e10 := f_prod (x := x) hy0
  unfold CallP RetBool
  k_fill
  rintro dp un gd cn cs a ccd cl outer A₀ base h₀ L m news s Q E B F X N T hk ⟨R1, R2, R3⟩ hd hu hret
  refine wpAny_call ?_
  k_dflt ktr_enter
  k_steps
  all_goals
    refine' ret_b (Q := Q) hret ?e1 ?e2 ?e3
    case e1 => rfl
    case e2 => k_asm
    case e3 => exact fun p hp => (by assumption : News _ _ _ _) p (by (repeat' first | exact hp | apply List.Mem.tail))
theorem rows_L2_2 : True := by
  k_with "call ref" => (k_here; (with_reducible show wpAny _ _ (call (Value.ref 167) [Value.ref 95, Value.ref _, Value.ref _]) _ _ _); k_dflt (refine' callK_use (refq_spec ?z1 ?z2 ?z3) ?k1 ?k2 ?k3 ?k4 ?k5 ?kK ?kP ?kd ?ku ?kH ?kHf ?kHs ?kXH ?kTH ?_; (case k1 => k_asm); (case k2 => k_asm); (case k3 => k_asm); (case k4 => k_asm); (case k5 => k_asm); (case kK => first | exact rfl | assumption); (case kP => (refine ⟨?_, ?_⟩ <;> (first | with_reducible assumption | with_reducible exact RatIn.nought | exact RatIn.of_mem (by k_mem) | exact RatIn.of_int (by k_mem) | exact RatIn.of_half (by k_mem) | exact RatIn.of_mhalf (by k_mem) | exact RatIn.mono (by with_reducible assumption) (fun _ h8 => by (repeat' first | exact h8 | apply List.Mem.tail))))); (case z1 => (with_reducible first | assumption | exact Sz.mono (by assumption) (by decide))); (case z2 => (with_reducible first | assumption | exact Sz.mono (by assumption) (by decide))); (case z3 => with_reducible assumption); (case kd => first | exact roomK (by with_reducible assumption) rfl | ktr_room); (case ku => first | exact unitsK (by with_reducible assumption) rfl | ktr_units); (case kH => exact Fr.keep (by assumption)); (case kHf => exact foot_frames rfl (by assumption)); (case kHs => exact Nat.le_trans (Fr.above (by assumption)) (Nat.le_of_lt (Fr.ns (by assumption)).lt)); (case kXH => assumption); (case kTH => assumption)); intro h9 tk9 K9; (try dsimp only); (try k_fold))
  exact trivial
set_option maxRecDepth 100000 in
set_option maxHeartbeats 1000000 in
theorem field_none {x y z : Rat} {bx by' bz : Addr} (hx : Sz 12 x) (hy : Sz 12 y) (hz : Sz 12 z) (hy0 : y = 0) : CallT w mean mg mb 181 [.ref bx, .ref by', .ref bz] 26 (fun news => RatIn w news bx x ∧ RatIn w news by' y ∧ RatIn w news bz z) (RetBool true) := by
  have s0 : Sz 340 (x) := (hx).mono (by decide)
  have s1 : Sz 340 (y) := (hy).mono (by decide)
  have s2 : Sz 340 (z) := (hz).mono (by decide)
  have s3 : Sz 340 (x + y) := (sz_add hx hy).mono (by decide)
  have s4 : Sz 340 (y + z) := (sz_add hy hz).mono (by decide)
  have s5 : Sz 340 (x * y) := (sz_mul hx hy).mono (by decide)
  have s6 : Sz 340 (y * z) := (sz_mul hy hz).mono (by decide)
  have s7 : Sz 340 (x * z) := (sz_mul hx hz).mono (by decide)
  have s8 : Sz 340 (-x) := (sz_neg hx).mono (by decide)
  have s9 : Sz 340 (y - x) := (sz_sub hy hx).mono (by decide)
  have s10 : Sz 340 (x / y) := (sz_div hx hy).mono (by decide)
  have e1 := f_add_comm x y
  have e2 := f_add_assoc x y z
  have e3 := f_mul_comm x y
  have e4 := f_mul_assoc x y z
  have e5 := f_spread x y z
  have e6 := f_undo x y
  have e7 := f_neg x
  have e8 := f_turn x y
  clear hx hy hz
  unfold CallT RetBool
  k_fill
  rintro dp un gd cn cs a ccd cl A₀ base h₀ L m news s Q E B F X N T hk ⟨R1, R2, R3⟩ hd hu hret
  refine wpAny_call ?_
  k_dflt (refine' code_raw ?k1 ?k2 ?k3 ?k4 ?k5 ?kA ?kF ?kK ?k6 ?k7 ?k8 ?k9 ?kB ?_ ?c2 ?c3 ?c4 ?c5; (case kA => exact rfl); (case kF => exact rfl); (case kK => first | exact rfl | assumption); (case k1 => k_asm); (case k2 => k_asm); (case k3 => k_asm); (case k4 => k_asm); (case k5 => k_asm); (case k6 => k_is); (case k7 => k_is); (case k8 => ktr_room); (case k9 => exact BindsTo.of_eq rfl); (case c5 => decide); (case kB => exact locs rfl); (case c2 => exact rfl); (case c3 => exact rfl); (case c4 => exact rfl); k_whole; intro g' L' h' FG' F' N' B' X' T'; (try dsimp only); (try k_fold))
  k_steps
  all_goals exact hret _ _ (kept_fr rfl FG' (by assumption)) (kept_news FG' (by assumption) (by assumption) (fun p hp => (by (repeat' first | exact hp | apply List.Mem.tail))))
theorem rows_L2_3 : True := by
  k_with_none
  exact trivial
end
theorem field_spec {x y z : Rat} {bx by' bz : Addr} (hx : Sz 12 x) (hy : Sz 12 y) (hz : Sz 12 z) : CallT w mean mg mb 181 [.ref bx, .ref by', .ref bz] 26 (fun news => RatIn w news bx x ∧ RatIn w news by' y ∧ RatIn w news bz z) (RetBool true) := by
  by_cases hy0 : y = 0
  · exact field_none hx hy hz hy0
  · exact (field_some hx hy hz hy0).foot
end Mine
end
section
namespace Mine
section
variable {prog : Program} {w : World} {A : Around} {E : Value → Shared → Prop} {s : Shared} {Q : Value → Shared → Prop} {a b : Int} {t u : Tok}
theorem nb_same {p q : Bool} (e : p = q) (h : Q (.bool false) s) : wpAny (model prog w) A (compareOp .NotEq (.bool p) (.bool q)) Q E s :=
  ne_bool (by subst e; rw [bne_self_eq_false]; exact h)
theorem ni_same (e : a = b) (h : Q (.bool false) s) : wpAny (model prog w) A (compareOp .NotEq (.int a t) (.int b u)) Q E s :=
  ne_int (by subst e; rw [bne_self_eq_false]; exact h)
theorem ei_same (e : a = b) (h : Q (.bool true) s) : wpAny (model prog w) A (compareOp .Eq (.int a t) (.int b u)) Q E s :=
  eq_int (by subst e; rw [beq_self_eq_true]; exact h)
theorem gi_no (e : a ≤ b) (h : Q (.bool false) s) : wpAny (model prog w) A (compareOp .Gt (.int a t) (.int b u)) Q E s :=
  gt_int (by rw [decide_eq_false (by omega)]; exact h)
theorem gei_no (e : a < b) (h : Q (.bool false) s) : wpAny (model prog w) A (compareOp .GtE (.int a t) (.int b u)) Q E s :=
  ge_int (by rw [decide_eq_false (by omega)]; exact h)
theorem gei_yes (e : b ≤ a) (h : Q (.bool true) s) : wpAny (model prog w) A (compareOp .GtE (.int a t) (.int b u)) Q E s :=
  ge_int (by rw [decide_eq_true (by omega)]; exact h)
theorem lei_yes (e : a ≤ b) (h : Q (.bool true) s) : wpAny (model prog w) A (compareOp .LtE (.int a t) (.int b u)) Q E s :=
  le_int (by rw [decide_eq_true (by omega)]; exact h)
theorem li_yes (e : a < b) (h : Q (.bool true) s) : wpAny (model prog w) A (compareOp .Lt (.int a t) (.int b u)) Q E s :=
  lt_int (by rw [decide_eq_true (by omega)]; exact h)
end
theorem o_zero' (x y : Rat) : (ratOrd x y == 0) = decide (x = y) := by
  by_cases h : x = y
  · rw [decide_eq_true h, (o_zero x y).mpr h]; rfl
  · rw [decide_eq_false h]; exact beq_false_of_ne fun q => h ((o_zero x y).mp q)
theorem w_whole' (x : Rat) : decide (x.den = 1) = (ratOrd ((x.floor : Int) : Rat) x == 0) := by
  by_cases h : x.den = 1
  · rw [decide_eq_true h, (w_whole x).mp h]; rfl
  · rw [decide_eq_false h]; exact (beq_false_of_ne fun q => h ((w_whole x).mpr q)).symm
variable {w : World} {mean : ExcName → Option Value} {mg mb : Str → Option Value}
section
theorem rows_L3_1 : True := by
  k_with_none
  k_with "call ref" => (k_here; (with_reducible show wpAny _ _ (call (Value.ref 74) [Value.ref _, Value.ref _]) _ _ _); k_dflt (refine' callP_use (sum_spec ?z1 ?z2) ?k1 ?k2 ?k3 ?k4 ?k5 ?kK ?kP ?kd ?ku ?_; (case k1 => k_asm); (case k2 => k_asm); (case k3 => k_asm); (case k4 => k_asm); (case k5 => k_asm); (case kK => first | exact rfl | assumption); (case kP => (refine ⟨?_, ?_⟩ <;> (first | with_reducible assumption | with_reducible exact RatIn.nought | exact RatIn.of_mem (by k_mem) | exact RatIn.of_int (by k_mem) | exact RatIn.of_half (by k_mem) | exact RatIn.of_mhalf (by k_mem) | exact RatIn.mono (by with_reducible assumption) (fun _ h8 => by (repeat' first | exact h8 | apply List.Mem.tail))))); (case z1 => (with_reducible first | assumption | exact Sz.mono (by assumption) (by decide))); (case z2 => (with_reducible first | assumption | exact Sz.mono (by assumption) (by decide))); (case kd => first | exact roomK (by with_reducible assumption) rfl | ktr_room); (case ku => first | exact unitsK (by with_reducible assumption) rfl | ktr_units)); intro b9 t9 u9 h9 tk9 F9 N9 l9; (try dsimp only); (try k_fold))
  k_with "call ref" => (k_here; (with_reducible show wpAny _ _ (call (Value.ref 88) [Value.ref _, Value.ref _]) _ _ _); k_dflt (refine' callP_use (prod_spec ?z1 ?z2) ?k1 ?k2 ?k3 ?k4 ?k5 ?kK ?kP ?kd ?ku ?_; (case k1 => k_asm); (case k2 => k_asm); (case k3 => k_asm); (case k4 => k_asm); (case k5 => k_asm); (case kK => first | exact rfl | assumption); (case kP => (refine ⟨?_, ?_⟩ <;> (first | with_reducible assumption | with_reducible exact RatIn.nought | exact RatIn.of_mem (by k_mem) | exact RatIn.of_int (by k_mem) | exact RatIn.of_half (by k_mem) | exact RatIn.of_mhalf (by k_mem) | exact RatIn.mono (by with_reducible assumption) (fun _ h8 => by (repeat' first | exact h8 | apply List.Mem.tail))))); (case z1 => (with_reducible first | assumption | exact Sz.mono (by assumption) (by decide))); (case z2 => (with_reducible first | assumption | exact Sz.mono (by assumption) (by decide))); (case kd => first | exact roomK (by with_reducible assumption) rfl | ktr_room); (case ku => first | exact unitsK (by with_reducible assumption) rfl | ktr_units)); intro b9 t9 u9 h9 tk9 F9 N9 l9; (try dsimp only); (try k_fold))
  k_with "call ref" => (k_here; (with_reducible show wpAny _ _ (call (Value.ref 95) [Value.ref _, Value.ref _]) _ _ _); k_dflt (refine' callP_use (quot_spec ?z1 ?z2 ?z3) ?k1 ?k2 ?k3 ?k4 ?k5 ?kK ?kP ?kd ?ku ?_; (case k1 => k_asm); (case k2 => k_asm); (case k3 => k_asm); (case k4 => k_asm); (case k5 => k_asm); (case kK => first | exact rfl | assumption); (case kP => (refine ⟨?_, ?_⟩ <;> (first | with_reducible assumption | with_reducible exact RatIn.nought | exact RatIn.of_mem (by k_mem) | exact RatIn.of_int (by k_mem) | exact RatIn.of_half (by k_mem) | exact RatIn.of_mhalf (by k_mem) | exact RatIn.mono (by with_reducible assumption) (fun _ h8 => by (repeat' first | exact h8 | apply List.Mem.tail))))); (case z1 => (with_reducible first | assumption | exact Sz.mono (by assumption) (by decide))); (case z2 => (with_reducible first | assumption | exact Sz.mono (by assumption) (by decide))); (case z3 => first | with_reducible assumption | exact two_ne); (case kd => first | exact roomK (by with_reducible assumption) rfl | ktr_room); (case ku => first | exact unitsK (by with_reducible assumption) rfl | ktr_units)); intro b9 t9 u9 h9 tk9 F9 N9 l9; (try dsimp only); (try k_fold))
  k_with "call ref" => (k_here; (with_reducible show wpAny _ _ (call (Value.ref 116) [Value.ref _, Value.ref _]) _ _ _); k_dflt (refine' callP_use (order_spec ?z1 ?z2) ?k1 ?k2 ?k3 ?k4 ?k5 ?kK ?kP ?kd ?ku ?_; (case k1 => k_asm); (case k2 => k_asm); (case k3 => k_asm); (case k4 => k_asm); (case k5 => k_asm); (case kK => first | exact rfl | assumption); (case kP => (refine ⟨?_, ?_⟩ <;> (first | with_reducible assumption | with_reducible exact RatIn.nought | exact RatIn.of_mem (by k_mem) | exact RatIn.of_int (by k_mem) | exact RatIn.of_half (by k_mem) | exact RatIn.of_mhalf (by k_mem) | exact RatIn.mono (by with_reducible assumption) (fun _ h8 => by (repeat' first | exact h8 | apply List.Mem.tail))))); (case z1 => (with_reducible first | assumption | exact Sz.mono (by assumption) (by decide))); (case z2 => (with_reducible first | assumption | exact Sz.mono (by assumption) (by decide))); (case kd => first | exact roomK (by with_reducible assumption) rfl | ktr_room); (case ku => first | exact unitsK (by with_reducible assumption) rfl | ktr_units)); intro t9 h9 tk9 F9 N9; (try dsimp only); (try k_fold))
  k_with "binaryOp Mult int int" => (k_here; (with_reducible refine mul_int ?_ ?m0); (case m0 => exact sz_mulok (by with_reducible assumption) (by with_reducible assumption)); (try dsimp only))
  k_with "compareOp NotEq bool bool" => (k_here; (with_reducible refine nb_same ?e0 ?_); (case e0 => with_reducible assumption); (try dsimp only))
  k_with "compareOp Eq ref ref" => (k_here; (with_reducible refine' rat_eq ?r1 ?r2 ?k2 ?k3 ?k4 ?ku ?_); (case k2 => k_asm); (case k3 => k_asm); (case k4 => k_asm); k_dflt ((case r1 => (first | with_reducible assumption | with_reducible exact RatIn.nought | exact RatIn.of_mem (by k_mem) | exact RatIn.of_int (by k_mem) | exact RatIn.of_half (by k_mem) | exact RatIn.of_mhalf (by k_mem) | exact RatIn.mono (by with_reducible assumption) (fun _ h8 => by (repeat' first | exact h8 | apply List.Mem.tail)))); (case r2 => (first | with_reducible assumption | with_reducible exact RatIn.nought | exact RatIn.of_mem (by k_mem) | exact RatIn.of_int (by k_mem) | exact RatIn.of_half (by k_mem) | exact RatIn.of_mhalf (by k_mem) | exact RatIn.mono (by with_reducible assumption) (fun _ h8 => by (repeat' first | exact h8 | apply List.Mem.tail))))); (case ku => first | exact unitsK (by with_reducible assumption) rfl | ktr_units); (try dsimp only))
  k_with "compareOp NotEq int int" => (k_here; (with_reducible refine ni_same ?e0 ?_); (case e0 => with_reducible assumption); (try dsimp only))
  k_with "compareOp Eq int int" => (k_here; (with_reducible refine ei_same ?e0 ?_); (case e0 => with_reducible assumption); (try dsimp only))
  k_with "compareOp Gt int int" => (k_here; (with_reducible refine gi_no ?e0 ?_); (case e0 => with_reducible assumption); (try dsimp only))
  k_with "compareOp GtE int int" => (k_here; (with_reducible first | (refine gei_no ?e0 ?_; (case e0 => with_reducible assumption)) | (refine gei_yes ?e0 ?_; (case e0 => with_reducible assumption))); (try dsimp only))
  k_with "compareOp LtE int int" => (k_here; (with_reducible refine lei_yes ?e0 ?_); (case e0 => with_reducible assumption); (try dsimp only))
  k_with "compareOp Lt int int" => (k_here; (with_reducible refine li_yes ?e0 ?_); (case e0 => with_reducible assumption); (try dsimp only))
  exact trivial
set_option maxRecDepth 100000 in
set_option maxHeartbeats 1000000 in
theorem ordered_spec {x y z : Rat} {bx by' bz : Addr} (hx : Sz 12 x) (hy : Sz 12 y) (hz : Sz 12 z) : CallP w mean mg mb 188 [.ref bx, .ref by', .ref bz] 20 (fun news => RatIn w news bx x ∧ RatIn w news by' y ∧ RatIn w news bz z) (RetBool true) := by
  have s0 : Sz 340 (x) := (hx).mono (by decide)
  have s1 : Sz 340 (y) := (hy).mono (by decide)
  have s2 : Sz 340 (z) := (hz).mono (by decide)
  have s3 : Sz 340 (x + y) := (sz_add hx hy).mono (by decide)
  have s4 : Sz 340 (x + z) := (sz_add hx hz).mono (by decide)
  have s5 : Sz 340 (y + z) := (sz_add hy hz).mono (by decide)
  have s6 : Sz 340 (x * z) := (sz_mul hx hz).mono (by decide)
  have s7 : Sz 340 (y * z) := (sz_mul hy hz).mono (by decide)
  have s8 : Sz 340 ((2 : Int) : Rat) := (sz_2).mono (by decide)
  have s9 : Sz 340 ((0 : Rat)) := (sz_0).mono (by decide)
  have s10 : Sz 340 ((x + y) / ((2 : Int) : Rat)) := (sz_div (sz_add hx hy) sz_2).mono (by decide)
  have e1 := o_flip x y
  have e2 := o_zero' x y
  have e3 := o_add x y z
  have e4 := o_mul x y z
  have e5 := o_mid1 x y
  have e6 := o_mid2 x y
  have z1 : Bz (ratOrd x y) := bz_of (by have := o_bound x y; omega)
  have z2 : Bz (ratOrd z 0) := bz_of (by have := o_bound z 0; omega)
  clear hx hy hz
  unfold CallP RetBool
  k_fill
  rintro dp un gd cn cs a ccd cl outer A₀ base h₀ L m news s Q E B F X N T hk ⟨R1, R2, R3⟩ hd hu hret
  refine wpAny_call ?_
  k_dflt ktr_enter
  k_steps
  all_goals
    refine' ret_b (Q := Q) hret ?e1 ?e2 ?e3
    case e1 => rfl
    case e2 => k_asm
    case e3 => exact fun p hp => (by assumption : News _ _ _ _) p (by (repeat' first | exact hp | apply List.Mem.tail))
theorem rows_L3_2 : True := by
  k_with_none
  exact trivial
end
end Mine
end
section
namespace Mine
theorem sz_of_int {k : Int} {n : Nat} (h : k.natAbs ≤ 10 ^ n) : Sz n ((k : Int) : Rat) := Sz.def.mpr ⟨h, Nat.pow_pos (by decide)⟩
theorem floor_le_num (x : Rat) : x.floor.natAbs ≤ x.num.natAbs := by
  rw [Rat.floor_def]
  exact Int.natAbs_ediv_le_natAbs _ _
theorem sz_floor {x : Rat} (h : Sz 12 x) : Sz 13 ((x.floor : Int) : Rat) :=
  sz_of_int (by have h1 := (Sz.def.mp h).1; have h2 := floor_le_num x; omega)
theorem sz_floor1 {x : Rat} (h : Sz 12 x) : Sz 13 ((x.floor + 1 : Int) : Rat) :=
  sz_of_int (by have h1 := (Sz.def.mp h).1; have h2 := floor_le_num x; omega)
theorem sz_small {k : Int} (h : k.natAbs ≤ 10) : Sz 1 ((k : Int) : Rat) := sz_of_int h
theorem sz_rnd {x : Rat} (h : Sz 12 x) : Sz 13 ((ratRnd x : Int) : Rat) := by
  refine sz_of_int ?_
  have h1 := (Sz.def.mp h).1
  have h3 := (Sz.def.mp h).2
  have h2 : (ratRnd x).natAbs = (ratSize x).natAbs := by unfold ratRnd; split <;> omega
  rw [h2]
  unfold ratSize
  rw [Int.fdiv_eq_ediv_of_nonneg _ (by omega)]
  refine Nat.le_trans (Int.natAbs_ediv_le_natAbs _ _) ?_
  split <;> omega
theorem neg_pos {x : Rat} (h : ¬ 0 ≤ ratOrd x 0) : 0 ≤ -x := by
  have h1 : ¬ 0 ≤ x := fun q => h ((o_sign x).mpr q)
  have h2 := Rat.not_le.mp h1
  grind
variable {w : World} {mean : ExcName → Option Value} {mg mb : Str → Option Value}
section
theorem rows_L4_1 : True := by
  k_with_none
  k_with "call ref" => (k_here; (with_reducible show wpAny _ _ (call (Value.ref 74) [Value.ref _, Value.ref _]) _ _ _); k_dflt (refine' callP_use (sum_spec ?z1 ?z2) ?k1 ?k2 ?k3 ?k4 ?k5 ?kK ?kP ?kd ?ku ?_; (case k1 => k_asm); (case k2 => k_asm); (case k3 => k_asm); (case k4 => k_asm); (case k5 => k_asm); (case kK => first | exact rfl | assumption); (case kP => (refine ⟨?_, ?_⟩ <;> (first | with_reducible assumption | with_reducible exact RatIn.nought | exact RatIn.of_mem (by k_mem) | exact RatIn.of_int (by k_mem) | exact RatIn.of_half (by k_mem) | exact RatIn.of_mhalf (by k_mem) | exact RatIn.mono (by with_reducible assumption) (fun _ h8 => by (repeat' first | exact h8 | apply List.Mem.tail))))); (case z1 => (with_reducible first | assumption | exact Sz.mono (by assumption) (by decide))); (case z2 => (with_reducible first | assumption | exact Sz.mono (by assumption) (by decide))); (case kd => first | exact roomK (by with_reducible assumption) rfl | ktr_room); (case ku => first | exact unitsK (by with_reducible assumption) rfl | ktr_units)); intro b9 t9 u9 h9 tk9 F9 N9 l9; (try dsimp only); (try k_fold))
  k_with "call ref" => (k_here; (with_reducible show wpAny _ _ (call (Value.ref 81) [Value.ref _, Value.ref _]) _ _ _); k_dflt (refine' callP_use (diff_spec ?z1 ?z2) ?k1 ?k2 ?k3 ?k4 ?k5 ?kK ?kP ?kd ?ku ?_; (case k1 => k_asm); (case k2 => k_asm); (case k3 => k_asm); (case k4 => k_asm); (case k5 => k_asm); (case kK => first | exact rfl | assumption); (case kP => (refine ⟨?_, ?_⟩ <;> (first | with_reducible assumption | with_reducible exact RatIn.nought | exact RatIn.of_mem (by k_mem) | exact RatIn.of_int (by k_mem) | exact RatIn.of_half (by k_mem) | exact RatIn.of_mhalf (by k_mem) | exact RatIn.mono (by with_reducible assumption) (fun _ h8 => by (repeat' first | exact h8 | apply List.Mem.tail))))); (case z1 => (with_reducible first | assumption | exact Sz.mono (by assumption) (by decide))); (case z2 => (with_reducible first | assumption | exact Sz.mono (by assumption) (by decide))); (case kd => first | exact roomK (by with_reducible assumption) rfl | ktr_room); (case ku => first | exact unitsK (by with_reducible assumption) rfl | ktr_units)); intro b9 t9 u9 h9 tk9 F9 N9 l9; (try dsimp only); (try k_fold))
  k_with "call ref" => (k_here; (with_reducible show wpAny _ _ (call (Value.ref 102) [Value.ref _]) _ _ _); k_dflt (refine' callP_use (neg_spec ?z1) ?k1 ?k2 ?k3 ?k4 ?k5 ?kK ?kP ?kd ?ku ?_; (case k1 => k_asm); (case k2 => k_asm); (case k3 => k_asm); (case k4 => k_asm); (case k5 => k_asm); (case kK => first | exact rfl | assumption); (case kP => (first | with_reducible assumption | with_reducible exact RatIn.nought | exact RatIn.of_mem (by k_mem) | exact RatIn.of_int (by k_mem) | exact RatIn.of_half (by k_mem) | exact RatIn.of_mhalf (by k_mem) | exact RatIn.mono (by with_reducible assumption) (fun _ h8 => by (repeat' first | exact h8 | apply List.Mem.tail)))); (case z1 => (with_reducible first | assumption | exact Sz.mono (by assumption) (by decide))); (case kd => first | exact roomK (by with_reducible assumption) rfl | ktr_room); (case ku => first | exact unitsK (by with_reducible assumption) rfl | ktr_units)); intro b9 t9 u9 h9 tk9 F9 N9 l9; (try dsimp only); (try k_fold))
  k_with "call ref" => (k_here; (with_reducible show wpAny _ _ (call (Value.ref 116) [Value.ref _, Value.ref _]) _ _ _); k_dflt (refine' callP_use (order_spec ?z1 ?z2) ?k1 ?k2 ?k3 ?k4 ?k5 ?kK ?kP ?kd ?ku ?_; (case k1 => k_asm); (case k2 => k_asm); (case k3 => k_asm); (case k4 => k_asm); (case k5 => k_asm); (case kK => first | exact rfl | assumption); (case kP => (refine ⟨?_, ?_⟩ <;> (first | with_reducible assumption | with_reducible exact RatIn.nought | exact RatIn.of_mem (by k_mem) | exact RatIn.of_int (by k_mem) | exact RatIn.of_half (by k_mem) | exact RatIn.of_mhalf (by k_mem) | exact RatIn.mono (by with_reducible assumption) (fun _ h8 => by (repeat' first | exact h8 | apply List.Mem.tail))))); (case z1 => (with_reducible first | assumption | exact Sz.mono (by assumption) (by decide))); (case z2 => (with_reducible first | assumption | exact Sz.mono (by assumption) (by decide))); (case kd => first | exact roomK (by with_reducible assumption) rfl | ktr_room); (case ku => first | exact unitsK (by with_reducible assumption) rfl | ktr_units)); intro t9 h9 tk9 F9 N9; (try dsimp only); (try k_fold))
  k_with "call ref" => (k_here; (with_reducible show wpAny _ _ (call (Value.ref 123) [Value.ref _]) _ _ _); k_dflt (refine' callP_use (floor_spec ?z1) ?k1 ?k2 ?k3 ?k4 ?k5 ?kK ?kP ?kd ?ku ?_; (case k1 => k_asm); (case k2 => k_asm); (case k3 => k_asm); (case k4 => k_asm); (case k5 => k_asm); (case kK => first | exact rfl | assumption); (case kP => (first | with_reducible assumption | with_reducible exact RatIn.nought | exact RatIn.of_mem (by k_mem) | exact RatIn.of_int (by k_mem) | exact RatIn.of_half (by k_mem) | exact RatIn.of_mhalf (by k_mem) | exact RatIn.mono (by with_reducible assumption) (fun _ h8 => by (repeat' first | exact h8 | apply List.Mem.tail)))); (case z1 => (with_reducible first | assumption | exact Sz.mono (by assumption) (by decide))); (case kd => first | exact roomK (by with_reducible assumption) rfl | ktr_room); (case ku => first | exact unitsK (by with_reducible assumption) rfl | ktr_units)); intro t9 h9 tk9 F9 N9; (try dsimp only); (try k_fold))
  k_with "call ref" => (k_here; (with_reducible show wpAny _ _ (call (Value.ref 130) [Value.ref _]) _ _ _); k_dflt (refine' callP_use (tz_spec ?z1) ?k1 ?k2 ?k3 ?k4 ?k5 ?kK ?kP ?kd ?ku ?_; (case k1 => k_asm); (case k2 => k_asm); (case k3 => k_asm); (case k4 => k_asm); (case k5 => k_asm); (case kK => first | exact rfl | assumption); (case kP => (first | with_reducible assumption | with_reducible exact RatIn.nought | exact RatIn.of_mem (by k_mem) | exact RatIn.of_int (by k_mem) | exact RatIn.of_half (by k_mem) | exact RatIn.of_mhalf (by k_mem) | exact RatIn.mono (by with_reducible assumption) (fun _ h8 => by (repeat' first | exact h8 | apply List.Mem.tail)))); (case z1 => (with_reducible first | assumption | exact Sz.mono (by assumption) (by decide))); (case kd => first | exact roomK (by with_reducible assumption) rfl | ktr_room); (case ku => first | exact unitsK (by with_reducible assumption) rfl | ktr_units)); intro t9 h9 tk9 F9 N9; (try dsimp only); (try k_fold))
  k_with "call ref" => (k_here; (with_reducible show wpAny _ _ (call (Value.ref 137) [Value.ref _]) _ _ _); k_dflt (refine' callP_use (rnd_spec ?z1) ?k1 ?k2 ?k3 ?k4 ?k5 ?kK ?kP ?kd ?ku ?_; (case k1 => k_asm); (case k2 => k_asm); (case k3 => k_asm); (case k4 => k_asm); (case k5 => k_asm); (case kK => first | exact rfl | assumption); (case kP => (first | with_reducible assumption | with_reducible exact RatIn.nought | exact RatIn.of_mem (by k_mem) | exact RatIn.of_int (by k_mem) | exact RatIn.of_half (by k_mem) | exact RatIn.of_mhalf (by k_mem) | exact RatIn.mono (by with_reducible assumption) (fun _ h8 => by (repeat' first | exact h8 | apply List.Mem.tail)))); (case z1 => (with_reducible first | assumption | exact Sz.mono (by assumption) (by decide))); (case kd => first | exact roomK (by with_reducible assumption) rfl | ktr_room); (case ku => first | exact unitsK (by with_reducible assumption) rfl | ktr_units)); intro t9 h9 tk9 F9 N9; (try dsimp only); (try k_fold))
  k_with "call ref" => (k_here; (with_reducible show wpAny _ _ (call (Value.ref 144) [Value.ref _]) _ _ _); k_dflt (refine' callP_use (whole_spec ?z1) ?k1 ?k2 ?k3 ?k4 ?k5 ?kK ?kP ?kd ?ku ?_; (case k1 => k_asm); (case k2 => k_asm); (case k3 => k_asm); (case k4 => k_asm); (case k5 => k_asm); (case kK => first | exact rfl | assumption); (case kP => (first | with_reducible assumption | with_reducible exact RatIn.nought | exact RatIn.of_mem (by k_mem) | exact RatIn.of_int (by k_mem) | exact RatIn.of_half (by k_mem) | exact RatIn.of_mhalf (by k_mem) | exact RatIn.mono (by with_reducible assumption) (fun _ h8 => by (repeat' first | exact h8 | apply List.Mem.tail)))); (case z1 => (with_reducible first | assumption | exact Sz.mono (by assumption) (by decide))); (case kd => first | exact roomK (by with_reducible assumption) rfl | ktr_room); (case ku => first | exact unitsK (by with_reducible assumption) rfl | ktr_units)); intro h9 tk9 F9 N9; (try dsimp only); (try k_fold))
  k_with "compareOp NotEq bool bool" => (k_here; (with_reducible refine nb_same ?e0 ?_); (case e0 => with_reducible assumption); (try dsimp only))
  k_with "compareOp Eq ref ref" => (k_here; (with_reducible refine' rat_eq ?r1 ?r2 ?k2 ?k3 ?k4 ?ku ?_); (case k2 => k_asm); (case k3 => k_asm); (case k4 => k_asm); k_dflt ((case r1 => (first | with_reducible assumption | with_reducible exact RatIn.nought | exact RatIn.of_mem (by k_mem) | exact RatIn.of_int (by k_mem) | exact RatIn.of_half (by k_mem) | exact RatIn.of_mhalf (by k_mem) | exact RatIn.mono (by with_reducible assumption) (fun _ h8 => by (repeat' first | exact h8 | apply List.Mem.tail)))); (case r2 => (first | with_reducible assumption | with_reducible exact RatIn.nought | exact RatIn.of_mem (by k_mem) | exact RatIn.of_int (by k_mem) | exact RatIn.of_half (by k_mem) | exact RatIn.of_mhalf (by k_mem) | exact RatIn.mono (by with_reducible assumption) (fun _ h8 => by (repeat' first | exact h8 | apply List.Mem.tail))))); (case ku => first | exact unitsK (by with_reducible assumption) rfl | ktr_units); (try dsimp only))
  k_with "compareOp NotEq int int" => (k_here; (with_reducible refine ni_same ?e0 ?_); (case e0 => with_reducible assumption); (try dsimp only))
  k_with "compareOp Eq int int" => (k_here; (with_reducible refine ei_same ?e0 ?_); (case e0 => with_reducible assumption); (try dsimp only))
  k_with "compareOp Gt int int" => (k_here; (with_reducible refine gi_no ?e0 ?_); (case e0 => with_reducible assumption); (try dsimp only))
  k_with "compareOp GtE int int" => (k_here; (with_reducible first | (refine gei_no ?e0 ?_; (case e0 => with_reducible assumption)) | (refine gei_yes ?e0 ?_; (case e0 => with_reducible assumption))); (try dsimp only))
  k_with "compareOp LtE int int" => (k_here; (with_reducible refine lei_yes ?e0 ?_); (case e0 => with_reducible assumption); (try dsimp only))
  k_with "compareOp Lt int int" => (k_here; (with_reducible refine li_yes ?e0 ?_); (case e0 => with_reducible assumption); (try dsimp only))
  exact trivial
set_option maxRecDepth 100000 in
set_option maxHeartbeats 1000000 in
theorem lwhole_spec {x : Rat} {k : Int} {tk : Tok} {bx : Addr} (hx : Sz 12 x) (hk : k.natAbs ≤ 10) : CallP w mean mg mb 202 [.ref bx, .int k tk] 20 (fun news => RatIn w news bx x) (RetBool true) := by
  have z1 := sz_floor hx
  have z2 := sz_floor1 hx
  have z3 := sz_small hk
  have z4 := sz_rnd hx
  have z5 := sz_rnd (sz_neg hx)
  have s0 : Sz 340 (x) := (hx).mono (by decide)
  have s1 : Sz 340 (-x) := (sz_neg hx).mono (by decide)
  have s2 : Sz 340 ((0 : Rat)) := (sz_0).mono (by decide)
  have s3 : Sz 340 (((x.floor : Int) : Rat)) := (z1).mono (by decide)
  have s4 : Sz 340 (((x.floor + 1 : Int) : Rat)) := (z2).mono (by decide)
  have s5 : Sz 340 (((k : Int) : Rat)) := (z3).mono (by decide)
  have s6 : Sz 340 (((ratRnd x : Int) : Rat)) := (z4).mono (by decide)
  have s7 : Sz 340 (((ratRnd (-x) : Int) : Rat)) := (z5).mono (by decide)
  have s8 : Sz 340 (x + ((k : Int) : Rat)) := (sz_add hx z3).mono (by decide)
  have s9 : Sz 340 (x - ((ratRnd x : Int) : Rat)) := (sz_sub hx z4).mono (by decide)
  have s10 : Sz 340 (-x - ((ratRnd (-x) : Int) : Rat)) := (sz_sub (sz_neg hx) z5).mono (by decide)
  have s11 : Sz 340 ((1 / 2 : Rat)) := (sz_h).mono (by decide)
  have s12 : Sz 340 ((-1 / 2 : Rat)) := (sz_mh).mono (by decide)
  clear z1 z2 z3 z4 z5
  have e1 := w_down x
  have e2 := w_up x
  have e3 := w_whole' x
  have e4 := w_stride x k
  have e5 := w_tz x
  have e6 := w_rnd x
  by_cases hs : 0 ≤ ratOrd x 0
  · have hp := (o_sign x).mp hs
    have f1 := w_tzs hp
    have f2 := w_gap1 hp
    have f3 := w_gap2 hp
    clear hx hp
    unfold CallP RetBool
    k_fill
    rintro dp un gd cn cs a ccd cl outer A₀ base h₀ L m news s Q E B F X N T hk R1 hd hu hret
    refine wpAny_call ?_
    k_dflt ktr_enter
    k_steps
    all_goals
      refine' ret_b (Q := Q) hret ?e1 ?e2 ?e3
      case e1 => rfl
      case e2 => k_asm
      case e3 => exact fun p hp => (by assumption : News _ _ _ _) p (by (repeat' first | exact hp | apply List.Mem.tail))
  · have hs' : ratOrd x 0 < 0 := by omega
    have hp := neg_pos hs
    have f1 := w_tzs hp
    have f2 := w_gap1 hp
    have f3 := w_gap2 hp
    clear hx hp
    unfold CallP RetBool
    k_fill
    rintro dp un gd cn cs a ccd cl outer A₀ base h₀ L m news s Q E B F X N T hk R1 hd hu hret
    refine wpAny_call ?_
    k_dflt ktr_enter
    k_steps
    all_goals
      refine' ret_b (Q := Q) hret ?e1 ?e2 ?e3
      case e1 => rfl
      case e2 => k_asm
      case e3 => exact fun p hp => (by assumption : News _ _ _ _) p (by (repeat' first | exact hp | apply List.Mem.tail))
theorem rows_L4_2 : True := by
  k_with_none
  exact trivial
end
end Mine
end
section
namespace Mine
variable {w : World} {mean : ExcName → Option Value} {mg mb : Str → Option Value}
theorem drop_to {h₀ h : Heap} {L : Addr} {a : Addr × Obj} {news news' : List (Addr × Obj)} (N : News h₀ L h news') (h1 : a ∈ news') (h2 : ∀ p ∈ news, p ∈ news') : News h₀ L h (a :: news) := fun p hp => by
  rcases List.mem_cons.mp hp with rfl | hp
  · exact N _ h1
  · exact N _ (h2 p hp)
theorem ret_rat {Q : Value → Shared → Prop} {s : Shared} {h₀ h' : Heap} {L b : Addr} {m : Str → Option Value} {news news' news'' : List (Addr × Obj)} {r r' : Rat} {t1 t2 : Tok} {tk' : Nat}
    (hret : ∀ (b : Addr) (t1 t2 : Tok) (h' : Heap) (tk' : Nat), Fr h₀ L h' m → News h₀ L h' ((b, ratObj r t1 t2) :: news) → (∀ p ∈ news, p.1 < b) → Q (.ref b) { s with heap := h', toks := tk' })
    (e : r' = r) (F : Fr h₀ L h' m) (N : News h₀ L h' news') (hm : (b, ratObj r' t1 t2) ∈ news') (h2 : ∀ p ∈ news, p ∈ news') (l : ∀ p ∈ news'', p.1 < b) (h3 : ∀ p ∈ news, p ∈ news'') :
    Q (.ref b) { s with heap := h', toks := tk' } := by
  subst e
  exact hret b t1 t2 h' tk' F (drop_to N hm h2) fun p hp => l p (h3 p hp)
theorem one_mul' {x : Rat} : ((1 : Int) : Rat) * x = x := Rat.one_mul x
theorem pw0 {x : Rat} : ((1 : Int) : Rat) = x ^ (0 : Int) := (Rat.zpow_zero x).symm
theorem pw1 {x : Rat} : ((1 : Int) : Rat) * x = x ^ (1 : Int) := by rw [one_mul', Rat.zpow_one]
theorem nat_pw {x : Rat} {n : Nat} : x ^ (n : Int) = x ^ n := Rat.zpow_natCast x n
theorem pw2 {x : Rat} : ((1 : Int) : Rat) * (x * x) = x ^ (2 : Int) := by
  rw [one_mul']; show _ = x ^ (2 : Nat)
  rw [Rat.pow_succ, Rat.pow_one]
theorem pw3 {x : Rat} : ((1 : Int) : Rat) * x * (x * x) = x ^ (3 : Int) := by
  rw [one_mul']; show _ = x ^ (3 : Nat)
  rw [Rat.pow_succ, Rat.pow_succ, Rat.pow_one, Rat.mul_assoc]
theorem pw4 {x : Rat} : ((1 : Int) : Rat) * (x * x * (x * x)) = x ^ (4 : Int) := by
  rw [one_mul']; show _ = x ^ (4 : Nat)
  rw [Rat.pow_succ, Rat.pow_succ, Rat.pow_succ, Rat.pow_one, ← Rat.mul_assoc]
theorem unit_is {x : Rat} (hd : x.den = 1) (ha : (if x.num < 0 then -x.num else x.num) ≤ 1) : x = -1 ∨ x = 0 ∨ x = 1 := by
  have h : x.num = -1 ∨ x.num = 0 ∨ x.num = 1 := by split at ha <;> omega
  rcases h with h | h | h
  · exact .inl (Rat.ext h hd)
  · exact .inr (.inl (Rat.ext h hd))
  · exact .inr (.inr (Rat.ext h hd))
theorem ps1 {x : Rat} (hd : x.den = 1) : ((x.num ^ 1 : Int) : Rat) = x ^ (1 : Int) := by
  rw [Int.pow_succ, Int.pow_zero, Int.one_mul, Rat.zpow_one]
  exact Rat.ext rfl hd.symm
theorem ps2 {x : Rat} (hd : x.den = 1) (ha : (if x.num < 0 then -x.num else x.num) ≤ 1) : ((x.num ^ 2 : Int) : Rat) = x ^ (2 : Int) := by
  rcases unit_is hd ha with rfl | rfl | rfl <;> decide +kernel
theorem ps3 {x : Rat} (hd : x.den = 1) (ha : (if x.num < 0 then -x.num else x.num) ≤ 1) : ((x.num ^ 1 : Int) : Rat) = x ^ (3 : Int) := by
  rcases unit_is hd ha with rfl | rfl | rfl <;> decide +kernel
theorem ps4 {x : Rat} (hd : x.den = 1) (ha : (if x.num < 0 then -x.num else x.num) ≤ 1) : ((x.num ^ 2 : Int) : Rat) = x ^ (4 : Int) := by
  rcases unit_is hd ha with rfl | rfl | rfl <;> decide +kernel
theorem abs_small {a : Int} (ha : (if a < 0 then -a else a) ≤ 1) : a.natAbs < 2 ^ 64 := by split at ha <;> omega
section
theorem rows_D6_1 : True := by
  k_with_none
  k_with "subscriptTail Name Constant ref int" => (k_here; (with_reducible first | (refine' rat_num ?k1 ?k2 ?k3 ?k4 ?k5 ?_ ?k8 ?k9; (case k5 => rfl)) | (refine' rat_den ?k1 ?k2 ?k3 ?k4 ?k5 ?_ ?k8 ?k9; (case k5 => rfl))); (case k8 => with_unfolding_all rfl); (case k9 => intro _; with_unfolding_all rfl); (case k1 => k_asm); (case k2 => k_asm); (case k3 => k_asm); (case k4 => k_asm); intro t7; (try dsimp only))
  k_with "call ref" => (k_here; (with_reducible show wpAny _ _ (call (Value.ref 88) [Value.ref _, Value.ref _]) _ _ _); k_dflt (refine' callP_use (prod_spec ?z1 ?z2) ?k1 ?k2 ?k3 ?k4 ?k5 ?kK ?kP ?kd ?ku ?_; (case k1 => k_asm); (case k2 => k_asm); (case k3 => k_asm); (case k4 => k_asm); (case k5 => k_asm); (case kK => first | exact rfl | assumption); (case kP => (refine ⟨?_, ?_⟩ <;> (first | with_reducible assumption | with_reducible exact RatIn.nought | exact RatIn.of_mem (by k_mem) | exact RatIn.of_int (by k_mem) | exact RatIn.of_half (by k_mem) | exact RatIn.of_mhalf (by k_mem) | exact RatIn.mono (by with_reducible assumption) (fun _ h8 => by (repeat' first | exact h8 | apply List.Mem.tail))))); (case z1 => (with_reducible first | assumption | exact Sz.mono (by assumption) (by decide))); (case z2 => (with_reducible first | assumption | exact Sz.mono (by assumption) (by decide))); (case kd => first | exact roomK (by with_reducible assumption) rfl | ktr_room); (case ku => first | exact unitsK (by with_reducible assumption) rfl | ktr_units)); intro b9 t9 u9 h9 tk9 F9 N9 l9; (try dsimp only); (try k_fold))
  exact trivial
set_option maxRecDepth 100000 in
set_option maxHeartbeats 1000000 in
theorem pow_0 {x : Rat} {bx : Addr} {tn : Tok} (hx : Sz 26 x) (hb : ¬ (x.den = 1 ∧ (if x.num < 0 then -x.num else x.num) ≤ 1)) : CallP w mean mg mb 109 [.ref bx, .int 0 tn] 6 (fun news => RatIn w news bx x) (RetRat (x ^ (0 : Int))) := by
  have s0 : Sz 340 x := hx.mono (by decide)
  have s1 : Sz 340 ((1 : Int) : Rat) := sz_1.mono (by decide)
  have s2 : Sz 340 (x * x) := (sz_mul hx hx).mono (by decide)
  have s3 : Sz 340 (((1 : Int) : Rat) * x) := (sz_mul sz_1 hx).mono (by decide)
  have s4 : Sz 340 (x * x * (x * x)) := (sz_mul (sz_mul hx hx) (sz_mul hx hx)).mono (by decide)
  clear hx
  unfold CallP RetRat
  k_fill
  rintro dp un gd cn cs a ccd cl outer A₀ base h₀ L m news s Q E B F X N T hk R1 hd hu hret
  refine wpAny_call ?_
  k_dflt ktr_enter
  k_steps
  all_goals exact ret_rat (Q := Q) hret pw0 (by k_asm) (by k_asm) (by k_mem) (fun p hp => (by (repeat' first | exact hp | apply List.Mem.tail))) (by assumption) (fun p hp => (by (repeat' first | exact hp | apply List.Mem.tail)))
set_option maxRecDepth 100000 in
set_option maxHeartbeats 1000000 in
theorem pow_1 {x : Rat} {bx : Addr} {tn : Tok} (hx : Sz 26 x) (hb : ¬ (x.den = 1 ∧ (if x.num < 0 then -x.num else x.num) ≤ 1)) : CallP w mean mg mb 109 [.ref bx, .int 1 tn] 6 (fun news => RatIn w news bx x) (RetRat (x ^ (1 : Int))) := by
  have s0 : Sz 340 x := hx.mono (by decide)
  have s1 : Sz 340 ((1 : Int) : Rat) := sz_1.mono (by decide)
  have s2 : Sz 340 (x * x) := (sz_mul hx hx).mono (by decide)
  have s3 : Sz 340 (((1 : Int) : Rat) * x) := (sz_mul sz_1 hx).mono (by decide)
  have s4 : Sz 340 (x * x * (x * x)) := (sz_mul (sz_mul hx hx) (sz_mul hx hx)).mono (by decide)
  clear hx
  unfold CallP RetRat
  k_fill
  rintro dp un gd cn cs a ccd cl outer A₀ base h₀ L m news s Q E B F X N T hk R1 hd hu hret
  refine wpAny_call ?_
  k_dflt ktr_enter
  k_steps
  all_goals exact ret_rat (Q := Q) hret pw1 (by k_asm) (by k_asm) (by k_mem) (fun p hp => (by (repeat' first | exact hp | apply List.Mem.tail))) (by assumption) (fun p hp => (by (repeat' first | exact hp | apply List.Mem.tail)))
set_option maxRecDepth 100000 in
set_option maxHeartbeats 1000000 in
theorem pow_2 {x : Rat} {bx : Addr} {tn : Tok} (hx : Sz 26 x) (hb : ¬ (x.den = 1 ∧ (if x.num < 0 then -x.num else x.num) ≤ 1)) : CallP w mean mg mb 109 [.ref bx, .int 2 tn] 6 (fun news => RatIn w news bx x) (RetRat (x ^ (2 : Int))) := by
  have s0 : Sz 340 x := hx.mono (by decide)
  have s1 : Sz 340 ((1 : Int) : Rat) := sz_1.mono (by decide)
  have s2 : Sz 340 (x * x) := (sz_mul hx hx).mono (by decide)
  have s3 : Sz 340 (((1 : Int) : Rat) * x) := (sz_mul sz_1 hx).mono (by decide)
  have s4 : Sz 340 (x * x * (x * x)) := (sz_mul (sz_mul hx hx) (sz_mul hx hx)).mono (by decide)
  clear hx
  unfold CallP RetRat
  k_fill
  rintro dp un gd cn cs a ccd cl outer A₀ base h₀ L m news s Q E B F X N T hk R1 hd hu hret
  refine wpAny_call ?_
  k_dflt ktr_enter
  k_steps
  all_goals exact ret_rat (Q := Q) hret pw2 (by k_asm) (by k_asm) (by k_mem) (fun p hp => (by (repeat' first | exact hp | apply List.Mem.tail))) (by assumption) (fun p hp => (by (repeat' first | exact hp | apply List.Mem.tail)))
set_option maxRecDepth 100000 in
set_option maxHeartbeats 1000000 in
theorem pow_3 {x : Rat} {bx : Addr} {tn : Tok} (hx : Sz 26 x) (hb : ¬ (x.den = 1 ∧ (if x.num < 0 then -x.num else x.num) ≤ 1)) : CallP w mean mg mb 109 [.ref bx, .int 3 tn] 6 (fun news => RatIn w news bx x) (RetRat (x ^ (3 : Int))) := by
  have s0 : Sz 340 x := hx.mono (by decide)
  have s1 : Sz 340 ((1 : Int) : Rat) := sz_1.mono (by decide)
  have s2 : Sz 340 (x * x) := (sz_mul hx hx).mono (by decide)
  have s3 : Sz 340 (((1 : Int) : Rat) * x) := (sz_mul sz_1 hx).mono (by decide)
  have s4 : Sz 340 (x * x * (x * x)) := (sz_mul (sz_mul hx hx) (sz_mul hx hx)).mono (by decide)
  clear hx
  unfold CallP RetRat
  k_fill
  rintro dp un gd cn cs a ccd cl outer A₀ base h₀ L m news s Q E B F X N T hk R1 hd hu hret
  refine wpAny_call ?_
  k_dflt ktr_enter
  k_steps
  all_goals exact ret_rat (Q := Q) hret pw3 (by k_asm) (by k_asm) (by k_mem) (fun p hp => (by (repeat' first | exact hp | apply List.Mem.tail))) (by assumption) (fun p hp => (by (repeat' first | exact hp | apply List.Mem.tail)))
set_option maxRecDepth 100000 in
set_option maxHeartbeats 1000000 in
theorem pow_4 {x : Rat} {bx : Addr} {tn : Tok} (hx : Sz 26 x) (hb : ¬ (x.den = 1 ∧ (if x.num < 0 then -x.num else x.num) ≤ 1)) : CallP w mean mg mb 109 [.ref bx, .int 4 tn] 6 (fun news => RatIn w news bx x) (RetRat (x ^ (4 : Int))) := by
  have s0 : Sz 340 x := hx.mono (by decide)
  have s1 : Sz 340 ((1 : Int) : Rat) := sz_1.mono (by decide)
  have s2 : Sz 340 (x * x) := (sz_mul hx hx).mono (by decide)
  have s3 : Sz 340 (((1 : Int) : Rat) * x) := (sz_mul sz_1 hx).mono (by decide)
  have s4 : Sz 340 (x * x * (x * x)) := (sz_mul (sz_mul hx hx) (sz_mul hx hx)).mono (by decide)
  clear hx
  unfold CallP RetRat
  k_fill
  rintro dp un gd cn cs a ccd cl outer A₀ base h₀ L m news s Q E B F X N T hk R1 hd hu hret
  refine wpAny_call ?_
  k_dflt ktr_enter
  k_steps
  all_goals exact ret_rat (Q := Q) hret pw4 (by k_asm) (by k_asm) (by k_mem) (fun p hp => (by (repeat' first | exact hp | apply List.Mem.tail))) (by assumption) (fun p hp => (by (repeat' first | exact hp | apply List.Mem.tail)))
theorem rows_D6_2 : True := by
  k_with "binaryOp Pow int int" => (k_here; (with_reducible refine pow_int_small ?k1 ?k2 ?k3 ?_); (case k1 => decide); (case k2 => decide); (case k3 => exact abs_small (by assumption)); (try dsimp only))
  exact trivial
set_option maxRecDepth 100000 in
set_option maxHeartbeats 1000000 in
theorem pows_0 {x : Rat} {bx : Addr} {tn : Tok} (hd1 : x.den = 1) (ha1 : (if x.num < 0 then -x.num else x.num) ≤ 1) : CallP w mean mg mb 109 [.ref bx, .int 0 tn] 6 (fun news => RatIn w news bx x) (RetRat (x ^ (0 : Int))) := by
  have hd2 : (x.den : Int) = 1 := by omega
  unfold CallP RetRat
  k_fill
  rintro dp un gd cn cs a ccd cl outer A₀ base h₀ L m news s Q E B F X N T hk R1 hd hu hret
  refine wpAny_call ?_
  k_dflt ktr_enter
  k_steps
  all_goals first | (exfalso; first | contradiction | omega) | exact ret_rat (Q := Q) hret pw0 (by k_asm) (by k_asm) (by k_mem) (fun p hp => (by (repeat' first | exact hp | apply List.Mem.tail))) (by assumption) (fun p hp => (by (repeat' first | exact hp | apply List.Mem.tail)))
set_option maxRecDepth 100000 in
set_option maxHeartbeats 1000000 in
theorem pows_1 {x : Rat} {bx : Addr} {tn : Tok} (hd1 : x.den = 1) (ha1 : (if x.num < 0 then -x.num else x.num) ≤ 1) : CallP w mean mg mb 109 [.ref bx, .int 1 tn] 6 (fun news => RatIn w news bx x) (RetRat (x ^ (1 : Int))) := by
  have hd2 : (x.den : Int) = 1 := by omega
  unfold CallP RetRat
  k_fill
  rintro dp un gd cn cs a ccd cl outer A₀ base h₀ L m news s Q E B F X N T hk R1 hd hu hret
  refine wpAny_call ?_
  k_dflt ktr_enter
  k_steps
  all_goals first | (exfalso; first | contradiction | omega) | exact ret_rat (Q := Q) hret (ps1 hd1) (by k_asm) (by k_asm) (by k_mem) (fun p hp => (by (repeat' first | exact hp | apply List.Mem.tail))) (by assumption) (fun p hp => (by (repeat' first | exact hp | apply List.Mem.tail)))
set_option maxRecDepth 100000 in
set_option maxHeartbeats 1000000 in
theorem pows_2 {x : Rat} {bx : Addr} {tn : Tok} (hd1 : x.den = 1) (ha1 : (if x.num < 0 then -x.num else x.num) ≤ 1) : CallP w mean mg mb 109 [.ref bx, .int 2 tn] 6 (fun news => RatIn w news bx x) (RetRat (x ^ (2 : Int))) := by
  have hd2 : (x.den : Int) = 1 := by omega
  unfold CallP RetRat
  k_fill
  rintro dp un gd cn cs a ccd cl outer A₀ base h₀ L m news s Q E B F X N T hk R1 hd hu hret
  refine wpAny_call ?_
  k_dflt ktr_enter
  k_steps
  all_goals first | (exfalso; first | contradiction | omega) | exact ret_rat (Q := Q) hret (ps2 hd1 ha1) (by k_asm) (by k_asm) (by k_mem) (fun p hp => (by (repeat' first | exact hp | apply List.Mem.tail))) (by assumption) (fun p hp => (by (repeat' first | exact hp | apply List.Mem.tail)))
set_option maxRecDepth 100000 in
set_option maxHeartbeats 1000000 in
theorem pows_3 {x : Rat} {bx : Addr} {tn : Tok} (hd1 : x.den = 1) (ha1 : (if x.num < 0 then -x.num else x.num) ≤ 1) : CallP w mean mg mb 109 [.ref bx, .int 3 tn] 6 (fun news => RatIn w news bx x) (RetRat (x ^ (3 : Int))) := by
  have hd2 : (x.den : Int) = 1 := by omega
  unfold CallP RetRat
  k_fill
  rintro dp un gd cn cs a ccd cl outer A₀ base h₀ L m news s Q E B F X N T hk R1 hd hu hret
  refine wpAny_call ?_
  k_dflt ktr_enter
  k_steps
  all_goals first | (exfalso; first | contradiction | omega) | exact ret_rat (Q := Q) hret (ps3 hd1 ha1) (by k_asm) (by k_asm) (by k_mem) (fun p hp => (by (repeat' first | exact hp | apply List.Mem.tail))) (by assumption) (fun p hp => (by (repeat' first | exact hp | apply List.Mem.tail)))
set_option maxRecDepth 100000 in
set_option maxHeartbeats 1000000 in
theorem pows_4 {x : Rat} {bx : Addr} {tn : Tok} (hd1 : x.den = 1) (ha1 : (if x.num < 0 then -x.num else x.num) ≤ 1) : CallP w mean mg mb 109 [.ref bx, .int 4 tn] 6 (fun news => RatIn w news bx x) (RetRat (x ^ (4 : Int))) := by
  have hd2 : (x.den : Int) = 1 := by omega
  unfold CallP RetRat
  k_fill
  rintro dp un gd cn cs a ccd cl outer A₀ base h₀ L m news s Q E B F X N T hk R1 hd hu hret
  refine wpAny_call ?_
  k_dflt ktr_enter
  k_steps
  all_goals first | (exfalso; first | contradiction | omega) | exact ret_rat (Q := Q) hret (ps4 hd1 ha1) (by k_asm) (by k_asm) (by k_mem) (fun p hp => (by (repeat' first | exact hp | apply List.Mem.tail))) (by assumption) (fun p hp => (by (repeat' first | exact hp | apply List.Mem.tail)))
theorem rows_D6_3 : True := by
  k_with_none
  exact trivial
end
theorem pow_pos {x : Rat} {bx : Addr} {tn : Tok} {n : Int} (hx : Sz 26 x) (h0 : 0 ≤ n) (h4 : n ≤ 4) : CallP w mean mg mb 109 [.ref bx, .int n tn] 6 (fun news => RatIn w news bx x) (RetRat (x ^ n)) := by
  have h : n = 0 ∨ n = 1 ∨ n = 2 ∨ n = 3 ∨ n = 4 := by omega
  by_cases hb : x.den = 1 ∧ (if x.num < 0 then -x.num else x.num) ≤ 1
  · rcases h with rfl | rfl | rfl | rfl | rfl
    · exact pows_0 hb.1 hb.2
    · exact pows_1 hb.1 hb.2
    · exact pows_2 hb.1 hb.2
    · exact pows_3 hb.1 hb.2
    · exact pows_4 hb.1 hb.2
  · rcases h with rfl | rfl | rfl | rfl | rfl
    · exact pow_0 hx hb
    · exact pow_1 hx hb
    · exact pow_2 hx hb
    · exact pow_3 hx hb
    · exact pow_4 hx hb
end Mine
end
section
namespace Mine
variable {w : World} {mean : ExcName → Option Value} {mg mb : Str → Option Value}
theorem inv_pw {x : Rat} (k : Nat) : (x⁻¹) ^ k = (x ^ k)⁻¹ := by
  induction k with
  | zero => rw [Rat.pow_zero, Rat.pow_zero]; decide +kernel
  | succ k ih => rw [Rat.pow_succ, Rat.pow_succ, ih, Rat.inv_mul_rev, Rat.mul_comm]
theorem neg_pw {x : Rat} {n : Int} (hn : n < 0) : (((1 : Int) : Rat) / x) ^ (-n) = x ^ n := by
  obtain ⟨k, hk⟩ := Int.eq_ofNat_of_zero_le (show 0 ≤ -n by omega)
  have e : n = -(k : Int) := by omega
  have e1 : ((1 : Int) : Rat) / x = x⁻¹ := by rw [Rat.div_def]; exact Rat.one_mul _
  rw [e1, hk, e, Rat.zpow_neg, nat_pw, nat_pw, inv_pw]
section
theorem rows_D7_1 : True := by
  k_with_none
  k_with "call ref" => (k_here; (with_reducible show wpAny _ _ (call (Value.ref 95) [Value.ref _, Value.ref _]) _ _ _); k_dflt (refine' callP_use (quot_spec ?z1 ?z2 ?z3) ?k1 ?k2 ?k3 ?k4 ?k5 ?kK ?kP ?kd ?ku ?_; (case k1 => k_asm); (case k2 => k_asm); (case k3 => k_asm); (case k4 => k_asm); (case k5 => k_asm); (case kK => first | exact rfl | assumption); (case kP => (refine ⟨?_, ?_⟩ <;> (first | with_reducible assumption | with_reducible exact RatIn.nought | exact RatIn.of_mem (by k_mem) | exact RatIn.of_int (by k_mem) | exact RatIn.of_half (by k_mem) | exact RatIn.of_mhalf (by k_mem) | exact RatIn.mono (by with_reducible assumption) (fun _ h8 => by (repeat' first | exact h8 | apply List.Mem.tail))))); (case z1 => (with_reducible first | assumption | exact Sz.mono (by assumption) (by decide))); (case z2 => (with_reducible first | assumption | exact Sz.mono (by assumption) (by decide))); (case z3 => first | with_reducible assumption | exact two_ne); (case kd => first | exact roomK (by with_reducible assumption) rfl | ktr_room); (case ku => first | exact unitsK (by with_reducible assumption) rfl | ktr_units)); intro b9 t9 u9 h9 tk9 F9 N9 l9; (try dsimp only); (try k_fold))
  k_with "call ref" => (k_here; (with_reducible show wpAny _ _ (call (Value.ref 109) [Value.ref _, Value.int _ _]) _ _ _); k_dflt (refine' callP_use (pow_pos ?z1 ?z2 ?z3) ?k1 ?k2 ?k3 ?k4 ?k5 ?kK ?kP ?kd ?ku ?_; (case k1 => k_asm); (case k2 => k_asm); (case k3 => k_asm); (case k4 => k_asm); (case k5 => k_asm); (case kK => first | exact rfl | assumption); (case kP => (first | with_reducible assumption | with_reducible exact RatIn.nought | exact RatIn.of_mem (by k_mem) | exact RatIn.of_int (by k_mem) | exact RatIn.of_half (by k_mem) | exact RatIn.of_mhalf (by k_mem) | exact RatIn.mono (by with_reducible assumption) (fun _ h8 => by (repeat' first | exact h8 | apply List.Mem.tail)))); (case z1 => with_reducible assumption); (case z2 => omega); (case z3 => omega); (case kd => first | exact roomK (by with_reducible assumption) rfl | ktr_room); (case ku => first | exact unitsK (by with_reducible assumption) rfl | ktr_units)); intro b9 t9 u9 h9 tk9 F9 N9 l9; (try dsimp only); (try k_fold))
  exact trivial
set_option maxRecDepth 100000 in
set_option maxHeartbeats 1000000 in
theorem pow_neg {x : Rat} {bx : Addr} {tn : Tok} {n : Int} (hx : Sz 25 x) (hx0 : x ≠ 0) (h0 : n < 0) (h4 : -4 ≤ n) : CallP w mean mg mb 109 [.ref bx, .int n tn] 8 (fun news => RatIn w news bx x) (RetRat (x ^ n)) := by
  have s0 : Sz 340 x := hx.mono (by decide)
  have s1 : Sz 340 ((1 : Int) : Rat) := sz_1.mono (by decide)
  have s2 : Sz 26 (((1 : Int) : Rat) / x) := (sz_div sz_1 hx).mono (by decide)
  clear hx
  unfold CallP RetRat
  k_fill
  rintro dp un gd cn cs a ccd cl outer A₀ base h₀ L m news s Q E B F X N T hk R1 hd hu hret
  refine wpAny_call ?_
  k_dflt ktr_enter
  k_steps
  all_goals exact ret_rat (Q := Q) hret (neg_pw h0) (by k_asm) (by k_asm) (by k_mem) (fun p hp => (by (repeat' first | exact hp | apply List.Mem.tail))) (by assumption) (fun p hp => (by (repeat' first | exact hp | apply List.Mem.tail)))
theorem rows_D7_2 : True := by
  k_with_none
  exact trivial
end
theorem RetMono {f : Addr} {vs : List Value} {d d' : Nat} {P : List (Addr × Obj) → Prop} {Ret : Heap → Addr → (Str → Option Value) → List (Addr × Obj) → Shared → (Value → Shared → Prop) → (Value → Shared → Prop) → Prop} (C : CallP w mean mg mb f vs d P Ret) (h : d ≤ d') : CallP w mean mg mb f vs d' P Ret :=
  fun dp un gd cn cs a ccd cl outer A₀ base h₀ L m news s Q E B F X N T hk hP hd hu => C dp un gd cn cs a ccd cl outer A₀ base h₀ L m news s Q E B F X N T hk hP (by omega) (by omega)
theorem pow_spec {x : Rat} {bx : Addr} {tn : Tok} {n : Int} (hx : Sz 25 x) (hx0 : x ≠ 0 ∨ 0 ≤ n) (h0 : -4 ≤ n) (h4 : n ≤ 4) : CallP w mean mg mb 109 [.ref bx, .int n tn] 8 (fun news => RatIn w news bx x) (RetRat (x ^ n)) := by
  by_cases h : n < 0
  · exact pow_neg hx (hx0.resolve_right (by omega)) h h0
  · exact RetMono (pow_pos (hx.mono (by decide)) (by omega) h4) (by decide)
theorem nat_pw_add {x : Rat} (a b : Nat) : x ^ (a + b) = x ^ a * x ^ b := by
  induction b with
  | zero => rw [Nat.add_zero, Rat.pow_zero, Rat.mul_one]
  | succ b ih => rw [← Nat.add_assoc, Rat.pow_succ, Rat.pow_succ, ih, Rat.mul_assoc]
theorem pw_add {x : Rat} {m n : Int} (h : x ≠ 0 ∨ (0 ≤ m ∧ 0 ≤ n)) : x ^ (m + n) = x ^ m * x ^ n := by
  rcases h with h | ⟨h1, h2⟩
  · exact Rat.zpow_add h m n
  · obtain ⟨a, rfl⟩ := Int.eq_ofNat_of_zero_le h1
    obtain ⟨b, rfl⟩ := Int.eq_ofNat_of_zero_le h2
    exact nat_pw_add a b
theorem nat_pw_mul {x y : Rat} (k : Nat) : (x * y) ^ k = x ^ k * y ^ k := by
  induction k with
  | zero => rw [Rat.pow_zero, Rat.pow_zero, Rat.pow_zero, Rat.mul_one]
  | succ k ih => rw [Rat.pow_succ, Rat.pow_succ, Rat.pow_succ, ih]; grind
theorem pw_mul {x y : Rat} {n : Int} : (x * y) ^ n = x ^ n * y ^ n := by
  by_cases h : 0 ≤ n
  · obtain ⟨k, rfl⟩ := Int.eq_ofNat_of_zero_le h
    exact nat_pw_mul k
  · obtain ⟨k, hk⟩ := Int.eq_ofNat_of_zero_le (show 0 ≤ -n by omega)
    have e : n = -(k : Int) := by omega
    rw [e, Rat.zpow_neg, Rat.zpow_neg, Rat.zpow_neg, nat_pw, nat_pw, nat_pw, nat_pw_mul, Rat.inv_mul_rev, Rat.mul_comm]
theorem sz_pw {x : Rat} {k : Nat} (hx : Sz k x) (j : Nat) : Sz (k * j) (x ^ j) := by
  rw [Sz.def] at hx ⊢
  rw [Rat.num_pow, Rat.den_pow, Int.natAbs_pow, Nat.pow_mul]
  exact ⟨Nat.pow_le_pow_left hx.1 j, Nat.pow_le_pow_left hx.2 j⟩
theorem sz_inv {x : Rat} {k : Nat} (hx : Sz k x) : Sz (k + 1) (x⁻¹) := by
  have h := sz_div sz_1 hx
  rw [Rat.div_def, one_mul'] at h
  exact h.mono (by omega)
theorem sz_pow {x : Rat} {n : Int} (hx : Sz 24 x) (h0 : -2 ≤ n) (h4 : n ≤ 2) : Sz 340 (x ^ n) := by
  by_cases h : 0 ≤ n
  · obtain ⟨k, rfl⟩ := Int.eq_ofNat_of_zero_le h
    exact (sz_pw hx k).mono (by omega)
  · obtain ⟨k, hk⟩ := Int.eq_ofNat_of_zero_le (show 0 ≤ -n by omega)
    have e : n = -(k : Int) := by omega
    rw [e, Rat.zpow_neg, nat_pw]
    exact (sz_inv (sz_pw hx k)).mono (by omega)
end Mine
end
section
namespace Mine
variable {w : World} {mean : ExcName → Option Value} {mg mb : Str → Option Value}
theorem min3 {prog : Program} {w : World} {A : Around} {E : Value → Shared → Prop} {s : Shared} {Q : Value → Shared → Prop} {h₀ : Heap} {L : Addr} {m : Str → Option Value} {news : List (Addr × Obj)} {a b c : Int} {t u x : Tok} (hh : A.handled = none) (F : Fr h₀ L s.heap m) (N : News h₀ L s.heap news)
    (h : ∀ v tv h' tk, v ≤ a → v ≤ b → v ≤ c → (v = a ∨ v = b ∨ v = c) → Fr h₀ L h' m → News h₀ L h' news → Q (.int v tv) { s with heap := h', toks := tk }) :
    wpAny (model prog w) A (call (.builtin "min") [.int a t, .int b u, .int c x]) Q E s :=
  PySem.min_three_ints hh fun h' tk hk => by
    have F' := F.grownK hk
    have N' := N.grown hk
    split
    · split
      · exact h _ _ h' tk (by omega) (by omega) (by omega) (by omega) F' N'
      · exact h _ _ h' tk (by omega) (by omega) (by omega) (by omega) F' N'
    · split
      · exact h _ _ h' tk (by omega) (by omega) (by omega) (by omega) F' N'
      · exact h _ _ h' tk (by omega) (by omega) (by omega) (by omega) F' N'
section
theorem rows_L6_1 : True := by
  k_with_none
  k_with "call builtin:min" => (k_here; (with_reducible refine' min3 ?k1 ?k2 ?k3 ?_); (case k1 => rfl); (case k2 => k_asm); (case k3 => k_asm); intro v9 tv9 h9 tk9 m1 m2 m3 m4 F9 N9; (try dsimp only))
  k_with "call ref" => (k_here; (with_reducible show wpAny _ _ (call (Value.ref 88) [Value.ref _, Value.ref _]) _ _ _); k_dflt (refine' callP_use (prod_spec ?z1 ?z2) ?k1 ?k2 ?k3 ?k4 ?k5 ?kK ?kP ?kd ?ku ?_; (case k1 => k_asm); (case k2 => k_asm); (case k3 => k_asm); (case k4 => k_asm); (case k5 => k_asm); (case kK => first | exact rfl | assumption); (case kP => (refine ⟨?_, ?_⟩ <;> (first | with_reducible assumption | with_reducible exact RatIn.nought | exact RatIn.of_mem (by k_mem) | exact RatIn.of_int (by k_mem) | exact RatIn.of_half (by k_mem) | exact RatIn.of_mhalf (by k_mem) | exact RatIn.mono (by with_reducible assumption) (fun _ h8 => by (repeat' first | exact h8 | apply List.Mem.tail))))); (case z1 => (with_reducible first | assumption | exact Sz.mono (by assumption) (by decide))); (case z2 => (with_reducible first | assumption | exact Sz.mono (by assumption) (by decide))); (case kd => first | exact roomK (by with_reducible assumption) rfl | ktr_room); (case ku => first | exact unitsK (by with_reducible assumption) rfl | ktr_units)); intro b9 t9 u9 h9 tk9 F9 N9 l9; (try dsimp only); (try k_fold))
  k_with "call ref" => (k_here; (with_reducible show wpAny _ _ (call (Value.ref 109) [Value.ref _, Value.int _ _]) _ _ _); k_dflt (refine' callP_use (pow_spec ?z1 ?z2 ?z3 ?z4) ?k1 ?k2 ?k3 ?k4 ?k5 ?kK ?kP ?kd ?ku ?_; (case k1 => k_asm); (case k2 => k_asm); (case k3 => k_asm); (case k4 => k_asm); (case k5 => k_asm); (case kK => first | exact rfl | assumption); (case kP => (first | with_reducible assumption | with_reducible exact RatIn.nought | exact RatIn.of_mem (by k_mem) | exact RatIn.of_int (by k_mem) | exact RatIn.of_half (by k_mem) | exact RatIn.of_mhalf (by k_mem) | exact RatIn.mono (by with_reducible assumption) (fun _ h8 => by (repeat' first | exact h8 | apply List.Mem.tail)))); (case z1 => with_reducible assumption); (case z2 => first | exact Or.inl (by with_reducible assumption) | exact Or.inr (by omega)); (case z3 => omega); (case z4 => omega); (case kd => first | exact roomK (by with_reducible assumption) rfl | ktr_room); (case ku => first | exact unitsK (by with_reducible assumption) rfl | ktr_units)); intro b9 t9 u9 h9 tk9 F9 N9 l9; (try dsimp only); (try k_fold))
  k_with "compareOp Eq ref ref" => (k_here; (with_reducible refine' rat_same ?r1 ?r2 ?k2 ?k3 ?k4 ?ku ?e0 ?_); (case k2 => k_asm); (case k3 => k_asm); (case k4 => k_asm); k_dflt ((case r1 => (first | with_reducible assumption | with_reducible exact RatIn.nought | exact RatIn.of_mem (by k_mem) | exact RatIn.of_int (by k_mem) | exact RatIn.of_half (by k_mem) | exact RatIn.of_mhalf (by k_mem) | exact RatIn.mono (by with_reducible assumption) (fun _ h8 => by (repeat' first | exact h8 | apply List.Mem.tail)))); (case r2 => (first | with_reducible assumption | with_reducible exact RatIn.nought | exact RatIn.of_mem (by k_mem) | exact RatIn.of_int (by k_mem) | exact RatIn.of_half (by k_mem) | exact RatIn.of_mhalf (by k_mem) | exact RatIn.mono (by with_reducible assumption) (fun _ h8 => by (repeat' first | exact h8 | apply List.Mem.tail))))); (case ku => first | exact unitsK (by with_reducible assumption) rfl | ktr_units); (case e0 => first | with_reducible assumption | with_reducible rfl | fail "same"); (try dsimp only))
  k_with "compareOp NotEq ref ref" => (k_here; (with_reducible refine' rat_differ ?r1 ?r2 ?k2 ?k3 ?k4 ?ku ?e0 ?_); (case k2 => k_asm); (case k3 => k_asm); (case k4 => k_asm); k_dflt ((case r1 => (first | with_reducible assumption | with_reducible exact RatIn.nought | exact RatIn.of_mem (by k_mem) | exact RatIn.of_int (by k_mem) | exact RatIn.of_half (by k_mem) | exact RatIn.of_mhalf (by k_mem) | exact RatIn.mono (by with_reducible assumption) (fun _ h8 => by (repeat' first | exact h8 | apply List.Mem.tail)))); (case r2 => (first | with_reducible assumption | with_reducible exact RatIn.nought | exact RatIn.of_mem (by k_mem) | exact RatIn.of_int (by k_mem) | exact RatIn.of_half (by k_mem) | exact RatIn.of_mhalf (by k_mem) | exact RatIn.mono (by with_reducible assumption) (fun _ h8 => by (repeat' first | exact h8 | apply List.Mem.tail))))); (case ku => first | exact unitsK (by with_reducible assumption) rfl | ktr_units); (case e0 => first | with_reducible assumption | with_reducible rfl | fail "same"); (try dsimp only))
  k_with "compareOp Eq ref ref" => (k_here; (with_reducible refine' rat_other ?r1 ?r2 ?k2 ?k3 ?k4 ?ku ?e0 ?_); (case k2 => k_asm); (case k3 => k_asm); (case k4 => k_asm); k_dflt ((case r1 => (first | with_reducible assumption | with_reducible exact RatIn.nought | exact RatIn.of_mem (by k_mem) | exact RatIn.of_int (by k_mem) | exact RatIn.of_half (by k_mem) | exact RatIn.of_mhalf (by k_mem) | exact RatIn.mono (by with_reducible assumption) (fun _ h8 => by (repeat' first | exact h8 | apply List.Mem.tail)))); (case r2 => (first | with_reducible assumption | with_reducible exact RatIn.nought | exact RatIn.of_mem (by k_mem) | exact RatIn.of_int (by k_mem) | exact RatIn.of_half (by k_mem) | exact RatIn.of_mhalf (by k_mem) | exact RatIn.mono (by with_reducible assumption) (fun _ h8 => by (repeat' first | exact h8 | apply List.Mem.tail))))); (case ku => first | exact unitsK (by with_reducible assumption) rfl | ktr_units); (case e0 => with_reducible assumption); (try dsimp only))
  k_with "call ref" => (k_here; (with_reducible show wpAny _ _ (call (Value.ref 167) [Value.ref 109, Value.ref _, Value.int _ _]) _ _ _); k_dflt (refine' callK_use (refp_spec ?z1 ?z2 ?z3) ?k1 ?k2 ?k3 ?k4 ?k5 ?kK ?kP ?kd ?ku ?kH ?kHf ?kHs ?kXH ?kTH ?_; (case k1 => k_asm); (case k2 => k_asm); (case k3 => k_asm); (case k4 => k_asm); (case k5 => k_asm); (case kK => first | exact rfl | assumption); (case kP => (first | with_reducible assumption | with_reducible exact RatIn.nought | exact RatIn.of_mem (by k_mem) | exact RatIn.of_int (by k_mem) | exact RatIn.of_half (by k_mem) | exact RatIn.of_mhalf (by k_mem) | exact RatIn.mono (by with_reducible assumption) (fun _ h8 => by (repeat' first | exact h8 | apply List.Mem.tail)))); (case z1 => (with_reducible first | assumption | exact Sz.mono (by assumption) (by decide))); (case z2 => with_reducible assumption); (case z3 => first | with_reducible assumption | omega); (case kd => first | exact roomK (by with_reducible assumption) rfl | ktr_room); (case ku => first | exact unitsK (by with_reducible assumption) rfl | ktr_units); (case kH => exact Fr.keep (by assumption)); (case kHf => exact foot_frames rfl (by assumption)); (case kHs => exact Nat.le_trans (Fr.above (by assumption)) (Nat.le_of_lt (Fr.ns (by assumption)).lt)); (case kXH => assumption); (case kTH => assumption)); intro h9 tk9 K9; (try dsimp only); (try k_fold))
  exact trivial
set_option maxRecDepth 100000 in
set_option maxHeartbeats 1000000 in
theorem lpow_1 {x y : Rat} {bx by' : Addr} {i j : Int} {t1 t2 : Tok} (hx : Sz 12 x) (hy : Sz 12 y) (hm1 : -2 ≤ i) (hm2 : i ≤ 2) (hn1 : -2 ≤ j) (hn2 : j ≤ 2) (h1 : x = 0) (h2 : ¬ (0 ≤ i ∧ 0 ≤ j)) : CallT w mean mg mb 195 [.ref bx, .ref by', .int i t1, .int j t2] 26 (fun news => RatIn w news bx x ∧ RatIn w news by' y) (RetBool true) := by
  have s0 : Sz 340 x := hx.mono (by decide)
  have s1 : Sz 340 y := hy.mono (by decide)
  have s2 : Sz 25 x := hx.mono (by decide)
  have s3 : Sz 25 y := hy.mono (by decide)
  have s4 : Sz 25 (x * y) := (sz_mul hx hy).mono (by decide)
  have s5 : Sz 340 (x * y) := (sz_mul hx hy).mono (by decide)
  have s6 : Sz 340 (x ^ i) := sz_pow (hx.mono (by decide)) hm1 hm2
  have s7 : Sz 340 (x ^ j) := sz_pow (hx.mono (by decide)) hn1 hn2
  have s8 : Sz 340 (y ^ j) := sz_pow (hy.mono (by decide)) hn1 hn2
  have e2 : (x * y) ^ j = x ^ j * y ^ j := pw_mul
  clear hx hy
  unfold CallT RetBool
  k_fill
  rintro dp un gd cn cs a ccd cl A₀ base h₀ L m news s Q E B F X N T hk ⟨R1, R2⟩ hd hu hret
  refine wpAny_call ?_
  k_dflt (refine' code_raw ?k1 ?k2 ?k3 ?k4 ?k5 ?kA ?kF ?kK ?k6 ?k7 ?k8 ?k9 ?kB ?_ ?c2 ?c3 ?c4 ?c5; (case kA => exact rfl); (case kF => exact rfl); (case kK => first | exact rfl | assumption); (case k1 => k_asm); (case k2 => k_asm); (case k3 => k_asm); (case k4 => k_asm); (case k5 => k_asm); (case k6 => k_is); (case k7 => k_is); (case k8 => ktr_room); (case k9 => exact BindsTo.of_eq rfl); (case c5 => decide); (case kB => exact locs rfl); (case c2 => exact rfl); (case c3 => exact rfl); (case c4 => exact rfl); k_whole; intro g' L' h' FG' F' N' B' X' T'; (try dsimp only); (try k_fold))
  k_steps
  all_goals exact hret _ _ (kept_fr rfl FG' (by assumption)) (kept_news FG' (by assumption) (by assumption) (fun p hp => (by (repeat' first | exact hp | apply List.Mem.tail))))
set_option maxRecDepth 100000 in
set_option maxHeartbeats 1000000 in
theorem lpow_2 {x y : Rat} {bx by' : Addr} {i j : Int} {t1 t2 : Tok} (hx : Sz 12 x) (hy : Sz 12 y) (hm1 : -2 ≤ i) (hm2 : i ≤ 2) (hn1 : -2 ≤ j) (hn2 : j ≤ 2) (h1 : x = 0) (h2 : 0 ≤ i) (h3 : 0 ≤ j) (h4 : y ≠ 0) : CallP w mean mg mb 195 [.ref bx, .ref by', .int i t1, .int j t2] 26 (fun news => RatIn w news bx x ∧ RatIn w news by' y) (RetBool true) := by
  have s0 : Sz 340 x := hx.mono (by decide)
  have s1 : Sz 340 y := hy.mono (by decide)
  have s2 : Sz 25 x := hx.mono (by decide)
  have s3 : Sz 25 y := hy.mono (by decide)
  have s4 : Sz 25 (x * y) := (sz_mul hx hy).mono (by decide)
  have s5 : Sz 340 (x * y) := (sz_mul hx hy).mono (by decide)
  have s6 : Sz 340 (x ^ i) := sz_pow (hx.mono (by decide)) hm1 hm2
  have s7 : Sz 340 (x ^ j) := sz_pow (hx.mono (by decide)) hn1 hn2
  have s8 : Sz 340 (y ^ j) := sz_pow (hy.mono (by decide)) hn1 hn2
  have e2 : (x * y) ^ j = x ^ j * y ^ j := pw_mul
  clear hx hy
  have e1 := pw_add (x := x) (.inr ⟨h2, h3⟩)
  unfold CallP RetBool
  k_fill
  rintro dp un gd cn cs a ccd cl outer A₀ base h₀ L m news s Q E B F X N T hk ⟨R1, R2⟩ hd hu hret
  refine wpAny_call ?_
  k_dflt ktr_enter
  k_steps
  all_goals
    refine' ret_b (Q := Q) hret ?e1 ?e2 ?e3
    case e1 => rfl
    case e2 => k_asm
    case e3 => exact fun p hp => (by assumption : News _ _ _ _) p (by (repeat' first | exact hp | apply List.Mem.tail))
set_option maxRecDepth 100000 in
set_option maxHeartbeats 1000000 in
theorem lpow_3 {x y : Rat} {bx by' : Addr} {i j : Int} {t1 t2 : Tok} (hx : Sz 12 x) (hy : Sz 12 y) (hm1 : -2 ≤ i) (hm2 : i ≤ 2) (hn1 : -2 ≤ j) (hn2 : j ≤ 2) (h1 : x = 0) (h2 : 0 ≤ i) (h3 : 0 ≤ j) (h4 : y = 0) : CallP w mean mg mb 195 [.ref bx, .ref by', .int i t1, .int j t2] 26 (fun news => RatIn w news bx x ∧ RatIn w news by' y) (RetBool true) := by
  have s0 : Sz 340 x := hx.mono (by decide)
  have s1 : Sz 340 y := hy.mono (by decide)
  have s2 : Sz 25 x := hx.mono (by decide)
  have s3 : Sz 25 y := hy.mono (by decide)
  have s4 : Sz 25 (x * y) := (sz_mul hx hy).mono (by decide)
  have s5 : Sz 340 (x * y) := (sz_mul hx hy).mono (by decide)
  have s6 : Sz 340 (x ^ i) := sz_pow (hx.mono (by decide)) hm1 hm2
  have s7 : Sz 340 (x ^ j) := sz_pow (hx.mono (by decide)) hn1 hn2
  have s8 : Sz 340 (y ^ j) := sz_pow (hy.mono (by decide)) hn1 hn2
  have e2 : (x * y) ^ j = x ^ j * y ^ j := pw_mul
  clear hx hy
  have e1 := pw_add (x := x) (.inr ⟨h2, h3⟩)
  unfold CallP RetBool
  k_fill
  rintro dp un gd cn cs a ccd cl outer A₀ base h₀ L m news s Q E B F X N T hk ⟨R1, R2⟩ hd hu hret
  refine wpAny_call ?_
  k_dflt ktr_enter
  k_steps
  all_goals
    refine' ret_b (Q := Q) hret ?e1 ?e2 ?e3
    case e1 => rfl
    case e2 => k_asm
    case e3 => exact fun p hp => (by assumption : News _ _ _ _) p (by (repeat' first | exact hp | apply List.Mem.tail))
set_option maxRecDepth 100000 in
set_option maxHeartbeats 1000000 in
theorem lpow_4 {x y : Rat} {bx by' : Addr} {i j : Int} {t1 t2 : Tok} (hx : Sz 12 x) (hy : Sz 12 y) (hm1 : -2 ≤ i) (hm2 : i ≤ 2) (hn1 : -2 ≤ j) (hn2 : j ≤ 2) (h1 : x ≠ 0) (h4 : y ≠ 0) : CallP w mean mg mb 195 [.ref bx, .ref by', .int i t1, .int j t2] 26 (fun news => RatIn w news bx x ∧ RatIn w news by' y) (RetBool true) := by
  have s0 : Sz 340 x := hx.mono (by decide)
  have s1 : Sz 340 y := hy.mono (by decide)
  have s2 : Sz 25 x := hx.mono (by decide)
  have s3 : Sz 25 y := hy.mono (by decide)
  have s4 : Sz 25 (x * y) := (sz_mul hx hy).mono (by decide)
  have s5 : Sz 340 (x * y) := (sz_mul hx hy).mono (by decide)
  have s6 : Sz 340 (x ^ i) := sz_pow (hx.mono (by decide)) hm1 hm2
  have s7 : Sz 340 (x ^ j) := sz_pow (hx.mono (by decide)) hn1 hn2
  have s8 : Sz 340 (y ^ j) := sz_pow (hy.mono (by decide)) hn1 hn2
  have e2 : (x * y) ^ j = x ^ j * y ^ j := pw_mul
  clear hx hy
  have e1 := pw_add (x := x) (m := i) (n := j) (.inl h1)
  have h5 : x * y ≠ 0 := fun q => (Rat.mul_eq_zero.mp q).elim h1 h4
  unfold CallP RetBool
  k_fill
  rintro dp un gd cn cs a ccd cl outer A₀ base h₀ L m news s Q E B F X N T hk ⟨R1, R2⟩ hd hu hret
  refine wpAny_call ?_
  k_dflt ktr_enter
  k_steps
  all_goals
    refine' ret_b (Q := Q) hret ?e1 ?e2 ?e3
    case e1 => rfl
    case e2 => k_asm
    case e3 => exact fun p hp => (by assumption : News _ _ _ _) p (by (repeat' first | exact hp | apply List.Mem.tail))
set_option maxRecDepth 100000 in
set_option maxHeartbeats 1000000 in
theorem lpow_5 {x y : Rat} {bx by' : Addr} {i j : Int} {t1 t2 : Tok} (hx : Sz 12 x) (hy : Sz 12 y) (hm1 : -2 ≤ i) (hm2 : i ≤ 2) (hn1 : -2 ≤ j) (hn2 : j ≤ 2) (h1 : x ≠ 0) (h4 : y = 0) (h5 : 0 ≤ j) : CallP w mean mg mb 195 [.ref bx, .ref by', .int i t1, .int j t2] 26 (fun news => RatIn w news bx x ∧ RatIn w news by' y) (RetBool true) := by
  have s0 : Sz 340 x := hx.mono (by decide)
  have s1 : Sz 340 y := hy.mono (by decide)
  have s2 : Sz 25 x := hx.mono (by decide)
  have s3 : Sz 25 y := hy.mono (by decide)
  have s4 : Sz 25 (x * y) := (sz_mul hx hy).mono (by decide)
  have s5 : Sz 340 (x * y) := (sz_mul hx hy).mono (by decide)
  have s6 : Sz 340 (x ^ i) := sz_pow (hx.mono (by decide)) hm1 hm2
  have s7 : Sz 340 (x ^ j) := sz_pow (hx.mono (by decide)) hn1 hn2
  have s8 : Sz 340 (y ^ j) := sz_pow (hy.mono (by decide)) hn1 hn2
  have e2 : (x * y) ^ j = x ^ j * y ^ j := pw_mul
  clear hx hy
  have e1 := pw_add (x := x) (m := i) (n := j) (.inl h1)
  unfold CallP RetBool
  k_fill
  rintro dp un gd cn cs a ccd cl outer A₀ base h₀ L m news s Q E B F X N T hk ⟨R1, R2⟩ hd hu hret
  refine wpAny_call ?_
  k_dflt ktr_enter
  k_steps
  all_goals
    refine' ret_b (Q := Q) hret ?e1 ?e2 ?e3
    case e1 => rfl
    case e2 => k_asm
    case e3 => exact fun p hp => (by assumption : News _ _ _ _) p (by (repeat' first | exact hp | apply List.Mem.tail))
set_option maxRecDepth 100000 in
set_option maxHeartbeats 1000000 in
theorem lpow_6 {x y : Rat} {bx by' : Addr} {i j : Int} {t1 t2 : Tok} (hx : Sz 12 x) (hy : Sz 12 y) (hm1 : -2 ≤ i) (hm2 : i ≤ 2) (hn1 : -2 ≤ j) (hn2 : j ≤ 2) (h1 : x ≠ 0) (h4 : y = 0) (h5 : j < 0) : CallT w mean mg mb 195 [.ref bx, .ref by', .int i t1, .int j t2] 26 (fun news => RatIn w news bx x ∧ RatIn w news by' y) (RetBool true) := by
  have s0 : Sz 340 x := hx.mono (by decide)
  have s1 : Sz 340 y := hy.mono (by decide)
  have s2 : Sz 25 x := hx.mono (by decide)
  have s3 : Sz 25 y := hy.mono (by decide)
  have s4 : Sz 25 (x * y) := (sz_mul hx hy).mono (by decide)
  have s5 : Sz 340 (x * y) := (sz_mul hx hy).mono (by decide)
  have s6 : Sz 340 (x ^ i) := sz_pow (hx.mono (by decide)) hm1 hm2
  have s7 : Sz 340 (x ^ j) := sz_pow (hx.mono (by decide)) hn1 hn2
  have s8 : Sz 340 (y ^ j) := sz_pow (hy.mono (by decide)) hn1 hn2
  have e2 : (x * y) ^ j = x ^ j * y ^ j := pw_mul
  clear hx hy
  have e1 := pw_add (x := x) (m := i) (n := j) (.inl h1)
  have e3 : x * y = 0 := by rw [h4, Rat.mul_zero]
  unfold CallT RetBool
  k_fill
  rintro dp un gd cn cs a ccd cl A₀ base h₀ L m news s Q E B F X N T hk ⟨R1, R2⟩ hd hu hret
  refine wpAny_call ?_
  k_dflt (refine' code_raw ?k1 ?k2 ?k3 ?k4 ?k5 ?kA ?kF ?kK ?k6 ?k7 ?k8 ?k9 ?kB ?_ ?c2 ?c3 ?c4 ?c5; (case kA => exact rfl); (case kF => exact rfl); (case kK => first | exact rfl | assumption); (case k1 => k_asm); (case k2 => k_asm); (case k3 => k_asm); (case k4 => k_asm); (case k5 => k_asm); (case k6 => k_is); (case k7 => k_is); (case k8 => ktr_room); (case k9 => exact BindsTo.of_eq rfl); (case c5 => decide); (case kB => exact locs rfl); (case c2 => exact rfl); (case c3 => exact rfl); (case c4 => exact rfl); k_whole; intro g' L' h' FG' F' N' B' X' T'; (try dsimp only); (try k_fold))
  k_steps
  all_goals exact hret _ _ (kept_fr rfl FG' (by assumption)) (kept_news FG' (by assumption) (by assumption) (fun p hp => (by (repeat' first | exact hp | apply List.Mem.tail))))
theorem rows_L6_2 : True := by
  k_with_none
  exact trivial
end
theorem lpow_spec {x y : Rat} {bx by' : Addr} {i j : Int} {t1 t2 : Tok} (hx : Sz 12 x) (hy : Sz 12 y) (hm1 : -2 ≤ i) (hm2 : i ≤ 2) (hn1 : -2 ≤ j) (hn2 : j ≤ 2) : CallT w mean mg mb 195 [.ref bx, .ref by', .int i t1, .int j t2] 26 (fun news => RatIn w news bx x ∧ RatIn w news by' y) (RetBool true) := by
  by_cases h1 : x = 0
  · by_cases h2 : 0 ≤ i ∧ 0 ≤ j
    · by_cases h4 : y = 0
      · exact (lpow_3 hx hy hm1 hm2 hn1 hn2 h1 h2.1 h2.2 h4).foot
      · exact (lpow_2 hx hy hm1 hm2 hn1 hn2 h1 h2.1 h2.2 h4).foot
    · exact lpow_1 hx hy hm1 hm2 hn1 hn2 h1 h2
  · by_cases h4 : y = 0
    · by_cases h5 : j < 0
      · exact lpow_6 hx hy hm1 hm2 hn1 hn2 h1 h4 h5
      · exact (lpow_5 hx hy hm1 hm2 hn1 hn2 h1 h4 (by omega)).foot
    · exact (lpow_4 hx hy hm1 hm2 hn1 hn2 h1 h4).foot
end Mine
end
section
namespace Mine
variable {w : World} {mean : ExcName → Option Value} {mg mb : Str → Option Value}
abbrev crankObj (l : Addr) (k : Int) (t : Tok) : Obj := listOf #[.ref l, .int k t] 0
/-- a call that turns the crank -/
abbrev CallC (w : World) (mean : ExcName → Option Value) (mg mb : Str → Option Value) (f : Addr) (vs : List Value) (depth : Nat) (c l : Addr)
    (Ret : (Obj → List (Addr × Obj)) → Heap → Addr → (Str → Option Value) → List (Addr × Obj) → Shared → (Value → Shared → Prop) → Prop) : Prop :=
  ∀ (dp un : Nat) (gd : Option (List Code)) (cn : Str) (cs : Scope) (a : Addr) (ccd : Value) (cl : List (Str × Addr)) (outer : List Env) (A₀ : Around) (base h₀ : Heap) (L : Addr) (m : Str → Option Value) (news : List (Addr × Obj)) (s : Shared) (Q E : Value → Shared → Prop)
    (g : Obj → List (Addr × Obj)) (k : Int) (t : Tok) (its : List Value) (ns : List Int),
    Below A₀ base outer h₀ → Fr h₀ L s.heap m → (Mine.hd.heap_39 w.params).In h₀ → News h₀ L s.heap news → Top Mine.hd.view_39 (looseW Mine.hd.view_39 [Str.ofString "GREATEST"]) mean mg mb h₀ → cs.kind = .function →
    UpdF c (crankObj l k t) news g → (l, listOf its.toArray 0) ∈ news → IntsAre its ns → ns.length ≤ 50 → 0 ≤ k → dp + depth < recursionLimit → un + 8 * depth < cLine → Ret g h₀ L m news s Q →
      wpAny (model PySem.Challenge.rw_sa0001_01.row.prog w) (ktrTop dp un gd cn cs L a ccd cl outer) (call (.ref f) vs) Q E s
abbrev RetTurn (l : Addr) (M : Int) (g : Obj → List (Addr × Obj)) (h₀ : Heap) (L : Addr) (m : Str → Option Value) (_news : List (Addr × Obj)) (s : Shared) (Q : Value → Shared → Prop) : Prop :=
  ∀ (v : Int) (tv : Tok) (k' : Int) (t' : Tok) (h' : Heap) (tk' : Nat), 0 ≤ v → v < M → 0 ≤ k' → Fr h₀ L h' m → News h₀ L h' (g (crankObj l k' t')) → Q (.int v tv) { s with heap := h', toks := tk' }
theorem front {h₀ h : Heap} {L : Addr} {pre post : List (Addr × Obj)} {c l : Addr} {o ol : Obj} (N : News h₀ L h (pre ++ (c, o) :: post)) (hl : (l, ol) ∈ pre ++ (c, o) :: post) : News h₀ L h ((c, o) :: (l, ol) :: (pre ++ post)) := fun p hp => by
  rcases List.mem_cons.mp hp with rfl | hp
  · exact N _ (by simp)
  · rcases List.mem_cons.mp hp with rfl | hp
    · exact N _ hl
    · exact N _ (by rcases List.mem_append.mp hp with q | q <;> simp [q])
theorem unfront {h₀ h : Heap} {L : Addr} {pre post : List (Addr × Obj)} {c l : Addr} {o ol : Obj} (N : News h₀ L h ((c, o) :: (l, ol) :: (pre ++ post))) : News h₀ L h (pre ++ (c, o) :: post) := fun p hp => by
  refine N p ?_
  rcases List.mem_append.mp hp with q | q
  · exact .tail _ (.tail _ (List.mem_append_left _ q))
  · rcases List.mem_cons.mp q with rfl | q
    · exact .head _
    · exact .tail _ (.tail _ (List.mem_append_right _ q))
abbrev TurnAt (w : World) (mean : ExcName → Option Value) (mg mb : Str → Option Value) (c l : Addr) (M : Int) (tM : Tok) : Prop :=
  ∀ (dp un : Nat) (gd : Option (List Code)) (cn : Str) (cs : Scope) (a : Addr) (ccd : Value) (cl : List (Str × Addr)) (outer : List Env) (A₀ : Around) (base h₀ : Heap) (L : Addr) (m : Str → Option Value) (others : List (Addr × Obj)) (s : Shared) (Q E : Value → Shared → Prop)
    (k : Int) (t : Tok) (its : List Value) (ns : List Int),
    Below A₀ base outer h₀ → Fr h₀ L s.heap m → (Mine.hd.heap_39 w.params).In h₀ → News h₀ L s.heap ((c, crankObj l k t) :: (l, listOf its.toArray 0) :: others) → Top Mine.hd.view_39 (looseW Mine.hd.view_39 [Str.ofString "GREATEST"]) mean mg mb h₀ → cs.kind = .function →
    (∀ p ∈ ((l, listOf its.toArray 0) :: others), p.1 ≠ c) → IntsAre its ns → ns.length ≤ 50 → 0 ≤ k → dp + 3 < recursionLimit → un + 8 * 3 < cLine →
    (∀ (v : Int) (tv : Tok) (k' : Int) (t' : Tok) (h' : Heap) (tk' : Nat), 0 ≤ v → v < M → 0 ≤ k' → Fr h₀ L h' m → News h₀ L h' ((c, crankObj l k' t') :: (l, listOf its.toArray 0) :: others) → Q (.int v tv) { s with heap := h', toks := tk' }) →
      wpAny (model PySem.Challenge.rw_sa0001_01.row.prog w) (ktrTop dp un gd cn cs L a ccd cl outer) (call (.ref 153) [.ref c, .int M tM]) Q E s
theorem rows_F1_1 : True := by
  k_with_none
  k_with "setItem ref int" => (k_here; k_dflt (refine' ki_set ?F ?N ?a ?b ?e ?U ?_; (case F => k_asm); (case N => k_asm); (case U => exact Upd.head (by assumption)); (case a => decide); (case b => decide); (case e => rfl)); intro h7 F7 N7; (try dsimp only))
  exact trivial
set_option maxRecDepth 100000 in
set_option maxHeartbeats 400000 in
theorem turn_core {c l : Addr} {M : Int} {tM : Tok} (hM : 0 < M) (hM2 : M ≤ 100) : TurnAt w mean mg mb c l M tM := by
  unfold TurnAt
  k_fill
  intro dp un gd cn cs a ccd cl outer A₀ base h₀ L m others s Q E k t its ns B F X N T hk hoc hi hns hk0 hd hu hret
  refine wpAny_call ?_
  k_dflt ktr_enter
  k_steps
  all_goals exact hret _ _ (k + 1) _ _ _ (Int.fmod_nonneg_of_pos _ hM) (Int.fmod_lt_of_pos _ hM) (by omega) (by k_asm) (by k_asm)
theorem turn_spec {c l : Addr} {M : Int} {tM : Tok} (hM : 0 < M) (hM2 : M ≤ 100) (hlc : l ≠ c) : CallC w mean mg mb 153 [.ref c, .int M tM] 3 c l (RetTurn l M) := by
  unfold CallC RetTurn
  intro dp un gd cn cs a ccd cl outer A₀ base h₀ L m news s Q E g k t its ns B F X N T hk U hl hi hns hk0 hd hu hret
  obtain ⟨pre, post, rfl, hg, hp1, hp2⟩ := U.split
  refine turn_core hM hM2 dp un gd cn cs a ccd cl outer A₀ base h₀ L m (pre ++ post) s Q E k t its ns B F X (front N hl) T hk (fun p hp => ?_) hi hns hk0 hd hu fun v tv k' t' h' tk' b1 b2 b3 F' N' => ?_
  · rcases List.mem_cons.mp hp with rfl | hp
    · exact hlc
    · exact (List.mem_append.mp hp).elim (hp1 p) (hp2 p)
  · exact hret v tv k' t' h' tk' b1 b2 b3 F' (by rw [hg]; exact unfront N')
theorem rows_F1_2 : True := by
  k_with_none
  exact trivial
end Mine
end
section
namespace Mine
theorem UpdF_again {c : Addr} {o : Obj} {news : List (Addr × Obj)} {g : Obj → List (Addr × Obj)} (U : UpdF c o news g) : ∀ o', UpdF c o' (g o') g := by
  induction U with
  | head h => exact fun o' => .head h
  | tail h _ ih => exact fun o' => .tail h (ih o')
theorem UpdF_self {c : Addr} {o : Obj} {news : List (Addr × Obj)} {g : Obj → List (Addr × Obj)} (U : UpdF c o news g) : news = g o := by
  induction U with
  | head h => rfl
  | tail h _ ih => rw [ih]
theorem UpdF_mem {c : Addr} {o : Obj} {news : List (Addr × Obj)} {g : Obj → List (Addr × Obj)} (U : UpdF c o news g) (o' : Obj) : (c, o') ∈ g o' := by
  induction U with
  | head h => exact .head _
  | tail h _ ih => exact .tail _ ih
theorem UpdF_other {c : Addr} {o : Obj} {news : List (Addr × Obj)} {g : Obj → List (Addr × Obj)} {p : Addr × Obj} (U : UpdF c o news g) (hp : p ∈ news) (hc : p.1 ≠ c) (o' : Obj) : p ∈ g o' := by
  induction U with
  | head h =>
    rcases List.mem_cons.mp hp with rfl | hp
    · exact absurd rfl hc
    · exact .tail _ hp
  | tail h _ ih =>
    rcases List.mem_cons.mp hp with rfl | hp
    · exact .head _
    · exact .tail _ (ih hp)
theorem UpdF_lt {c : Addr} {o : Obj} {news : List (Addr × Obj)} {g : Obj → List (Addr × Obj)} {D : Addr} (U : UpdF c o news g) {o₁ : Obj} (h : ∀ p ∈ g o₁, p.1 < D) : ∀ o', ∀ p ∈ g o', p.1 < D := by
  intro o' p hp
  obtain ⟨pre, post, _, hg, _, _⟩ := U.split
  rw [hg] at h hp
  rcases List.mem_append.mp hp with q | q
  · exact h p (List.mem_append_left _ q)
  · rcases List.mem_cons.mp q with rfl | q
    · exact h (c, o₁) (by simp)
    · exact h p (List.mem_append_right _ (.tail _ q))
structure Turns (c l : Addr) (its : List Value) (g : Obj → List (Addr × Obj)) : Prop where
  upd : ∀ o', UpdF c o' (g o') g
  lst : ∀ o', (l, listOf its.toArray 0) ∈ g o'
theorem Turns.ne {c l : Addr} {its : List Value} {g : Obj → List (Addr × Obj)} {o : Obj} {D : Addr} (T : Turns c l its g) (h : ∀ p ∈ g o, p.1 < D) : D ≠ c := fun q => by
  have := h _ (UpdF_mem (T.upd o) o)
  rw [q] at this
  exact Nat.lt_irrefl _ this
theorem lt_allLt {d : Addr} {l : List (Addr × Obj)} : AllLt d l → ∀ p ∈ l, p.1 < d := by
  induction l with
  | nil => intro _ p hp; exact nomatch hp
  | cons q r ih =>
    intro h p hp
    rcases List.mem_cons.mp hp with rfl | hp
    · exact h.1
    · exact ih h.2 p hp
theorem Turns.neA {c l : Addr} {its : List Value} {g : Obj → List (Addr × Obj)} {o : Obj} {D : Addr} (T : Turns c l its g) (h : AllLt D (g o)) : D ≠ c := T.ne (lt_allLt h)
variable {w : World} {mean : ExcName → Option Value} {mg mb : Str → Option Value}
theorem callC_use {f : Addr} {vs : List Value} {depth : Nat} {c l : Addr} {Ret : (Obj → List (Addr × Obj)) → Heap → Addr → (Str → Option Value) → List (Addr × Obj) → Shared → (Value → Shared → Prop) → Prop}
    {dp un : Nat} {gd : Option (List Code)} {cn : Str} {cs : Scope} {a : Addr} {ccd : Value} {cl : List (Str × Addr)} {outer : List Env} {A₀ : Around} {base h₀ : Heap} {L : Addr} {m : Str → Option Value} {news : List (Addr × Obj)} {s : Shared} {Q E : Value → Shared → Prop}
    {g : Obj → List (Addr × Obj)} {k : Int} {t : Tok} {its : List Value} {ns : List Int}
    (C : CallC w mean mg mb f vs depth c l Ret)
    (B : Below A₀ base outer h₀) (F : Fr h₀ L s.heap m) (X : (Mine.hd.heap_39 w.params).In h₀) (N : News h₀ L s.heap news) (T : Top Mine.hd.view_39 (looseW Mine.hd.view_39 [Str.ofString "GREATEST"]) mean mg mb h₀) (hk : cs.kind = .function)
    (U : UpdF c (crankObj l k t) news g) (hl : (l, listOf its.toArray 0) ∈ news) (hi : IntsAre its ns) (hn : ns.length ≤ 50) (hk0 : 0 ≤ k) (hd : dp + depth < recursionLimit) (hu : un + 8 * depth < cLine) (ret : Ret g h₀ L m news s Q) :
    wpAny (model PySem.Challenge.rw_sa0001_01.row.prog w) (ktrTop dp un gd cn cs L a ccd cl outer) (call (.ref f) vs) Q E s :=
  C dp un gd cn cs a ccd cl outer A₀ base h₀ L m news s Q E g k t its ns B F X N T hk U hl hi hn hk0 hd hu ret
abbrev RetParts (l : Addr) (g : Obj → List (Addr × Obj)) (h₀ : Heap) (L : Addr) (m : Str → Option Value) (_news : List (Addr × Obj)) (s : Shared) (Q : Value → Shared → Prop) : Prop :=
  ∀ (b : Addr) (p q : Int) (t1 t2 : Tok) (k' : Int) (t' : Tok) (h' : Heap) (tk' : Nat), p.natAbs ≤ 10 ^ 12 → q.natAbs ≤ 12 → q ≠ 0 → 0 ≤ k' → Fr h₀ L h' m → News h₀ L h' ((b, { cls := .type "tuple", data := .seq #[.int p t1, .int q t2] }) :: g (crankObj l k' t')) →
    (∀ o, ∀ p ∈ g o, p.1 < b) → Q (.ref b) { s with heap := h', toks := tk' }
theorem part_top {v u : Int} (h1 : 0 ≤ v) (h2 : v < 41) (h3 : 0 ≤ u) (h4 : u < 3) : ((v - 20) * [1, 60, 10 ^ Int.toNat 9 + 7].getD u.toNat 0).natAbs ≤ 10 ^ 12 := by
  have e : u = 0 ∨ u = 1 ∨ u = 2 := by omega
  rw [Int.natAbs_mul]
  have h5 : (v - 20).natAbs ≤ 20 := by omega
  have key : ([1, 60, 10 ^ Int.toNat 9 + 7].getD u.toNat 0 : Int).natAbs ≤ 1000000007 := by
    rcases e with rfl | rfl | rfl <;> decide
  exact Nat.le_trans (Nat.mul_le_mul h5 key) (by decide)
theorem parts_ret {Q : Value → Shared → Prop} {s : Shared} {h₀ h' : Heap} {L D c l : Addr} {m : Str → Option Value} {g : Obj → List (Addr × Obj)} {x y : Addr × Obj} {p q : Int} {t1 t2 : Tok} {k' : Int} {t' : Tok} {tk' : Nat} {its : List Value} {A1 A2 : Prop}
    (hret : ∀ (b : Addr) (p q : Int) (t1 t2 : Tok) (k' : Int) (t' : Tok) (h' : Heap) (tk' : Nat), p.natAbs ≤ 10 ^ 12 → q.natAbs ≤ 12 → q ≠ 0 → 0 ≤ k' → Fr h₀ L h' m → News h₀ L h' ((b, { cls := .type "tuple", data := .seq #[.int p t1, .int q t2] }) :: g (crankObj l k' t')) →
      (∀ o, ∀ p ∈ g o, p.1 < b) → Q (.ref b) { s with heap := h', toks := tk' })
    (TT : Turns c l its g) (F : Fr h₀ L h' m) (N : News h₀ L h' ((D, { cls := .type "tuple", data := .seq #[.int p t1, .int q t2] }) :: x :: y :: g (crankObj l k' t'))) (hl : A1 ∧ A2 ∧ AllLt D (g (crankObj l k' t')))
    (h1 : p.natAbs ≤ 10 ^ 12) (h2 : q.natAbs ≤ 12) (h3 : q ≠ 0) (h4 : 0 ≤ k') : Q (.ref D) { s with heap := h', toks := tk' } :=
  hret D p q t1 t2 k' t' h' tk' h1 h2 h3 h4 F (fun p hp => by
    rcases List.mem_cons.mp hp with rfl | hp
    · exact N _ (.head _)
    · exact N _ (.tail _ (.tail _ (.tail _ hp)))) (UpdF_lt (TT.upd (crankObj l k' t')) (lt_allLt hl.2.2))
section
theorem rows_F2_1 : True := by
  k_with_none
  k_with "call ref" => (k_here; (with_reducible show wpAny _ _ (call (Value.ref 153) [Value.ref _, Value.int _ _]) _ _ _); k_dflt (refine' callC_use (turn_spec ?z1 ?z2 ?z3) ?k1 ?k2 ?k3 ?k4 ?k5 ?kK ?kU ?kL ?kI ?kN ?k0 ?kd ?ku ?_; (case k1 => k_asm); (case k2 => k_asm); (case k3 => k_asm); (case k4 => k_asm); (case k5 => k_asm); (case kK => first | exact rfl | assumption); (case kU => (first | exact Turns.upd (by assumption) _ | (refine UpdF.tail ?_ (Turns.upd (by assumption) _)) | (refine UpdF.tail ?_ (UpdF.tail ?_ (Turns.upd (by assumption) _)))) <;> (first | exact Turns.ne (by assumption) (by assumption) | exact Turns.neA (by assumption) (by assumption) | exact Turns.neA (by assumption) (And.right (by assumption)))); (case kL => first | exact Turns.lst (by assumption) _ | exact List.Mem.tail _ (Turns.lst (by assumption) _) | exact List.Mem.tail _ (List.Mem.tail _ (Turns.lst (by assumption) _))); (case kI => assumption); (case kN => assumption); (case k0 => assumption); (case z1 => decide); (case z2 => decide); (case z3 => assumption); (case kd => first | exact roomK (by with_reducible assumption) rfl | ktr_room); (case ku => first | exact unitsK (by with_reducible assumption) rfl | ktr_units)); intro v9 tv9 k9 t9 h9 tk9 b1 b2 b3 F9 N9; (try dsimp only at N9 ⊢); (try k_fold))
  exact trivial
set_option maxRecDepth 100000 in
set_option maxHeartbeats 800000 in
theorem parts_spec {c l : Addr} (hlc : l ≠ c) : CallC w mean mg mb 160 [.ref c] 5 c l (RetParts l) := by
  unfold CallC RetParts
  k_fill
  intro dp un gd cn cs a ccd cl outer A₀ base h₀ L m news s Q E g k t its ns B F X N T hk U hl hi hns hk0 hd hu hret
  have TT : Turns c l its g := ⟨UpdF_again U, UpdF_other U hl hlc⟩
  obtain rfl := UpdF_self U
  clear hl
  refine wpAny_call ?_
  k_dflt ktr_enter
  k_steps
  all_goals
    refine' parts_ret (Q := Q) hret TT ?F ?N ?hl ?h1 ?h2 ?h3 ?h4
    case F => k_asm
    case N => k_asm
    case hl => assumption
    case h1 => exact part_top (by assumption) (by assumption) (by assumption) (by assumption)
    case h2 => omega
    case h3 => omega
    case h4 => assumption
theorem rows_F2_2 : True := by
  k_with_none
  exact trivial
end
end Mine
end
section
namespace Mine
/-- what stands between the turns -/
def LawR (c l cell : Addr) (its : List Value) (o : Obj) (_ : Unit) (_m : Str → Option Value) (nx : List (Addr × Obj)) : Prop :=
  ∃ (k : Int) (t : Tok), 0 ≤ k ∧ nx = [(c, crankObj l k t), (l, listOf its.toArray 0), (cell, o)]
def LawEnd (h₀ : Heap) (L c l cell : Addr) (its : List Value) (o : Obj) (own : List (Addr × Obj)) (s₁ : Shared) (Q : Flow → Shared → Prop) (f : Flow) (s₂ : Shared) : Prop :=
  InvPostN h₀ L (LawR c l cell its o ()) own [c, l, cell] s₁ Q f s₂
theorem LawEnd.intro {h₀ h' : Heap} {L c l cell : Addr} {its : List Value} {o : Obj} {own news' : List (Addr × Obj)} {s₁ : Shared} {Q : Flow → Shared → Prop} {m' : Str → Option Value} {tk : Nat} {k : Int} {t : Tok} (F : Fr h₀ L h' m') (N : News h₀ L h' news') (hk : 0 ≤ k)
    (h1 : (c, crankObj l k t) ∈ news') (h2 : (l, listOf its.toArray 0) ∈ news') (h3 : (cell, o) ∈ news') (h4 : ∀ p ∈ own, p ∈ news') : LawEnd h₀ L c l cell its o own s₁ Q .next { s₁ with heap := h', toks := tk } :=
  InvEndN.intro F N ⟨k, t, hk, rfl⟩ rfl (fun p hp => by
    rcases List.mem_cons.mp hp with rfl | hp
    · exact h1
    · rcases List.mem_cons.mp hp with rfl | hp
      · exact h2
      · rcases List.mem_cons.mp hp with rfl | hp
        · exact h3
        · exact nomatch hp) h4
section
variable {prog : Program} {w : World} {A : Around} {E : Value → Shared → Prop} {s : Shared} {env : Env} {h₀ : Heap} {x : Str} {body : List Stmt} {Q : Flow → Shared → Prop}
theorem law_loop {r c l cell : Addr} {v k : Int} {t t₀ u₀ v₀ : Tok} {its : List Value} {o : Obj} {m₀ : Str → Option Value}
    (hh : A.handled = none) (hr : IsRange s.heap r 0 (1 + v) 1 t₀ u₀ v₀) (hv0 : 0 ≤ v) (hv3 : v < 3) (F : Fr h₀ env.locals s.heap m₀) (N : News h₀ env.locals s.heap [(c, crankObj l k t), (l, listOf its.toArray 0), (cell, o)]) (hk : 0 ≤ k) {ns : List Int} (hn : ns.length ≤ 50) (hi : IntsAre its ns)
    (turn : ns.length ≤ 50 → ∀ (n : Int) (tn : Tok) (k : Int) (t : Tok) (m₁ : Str → Option Value) (h : Heap) (tk : Nat) (own : List (Addr × Obj)), 0 ≤ k → (∀ p ∈ own, p.1 ≠ c) → Fr h₀ env.locals h (fun y => if y = x then some (.int n tn) else m₁ y) → News h₀ env.locals h ((c, crankObj l k t) :: (l, listOf its.toArray 0) :: (cell, o) :: own) →
      wpAny (model prog w) A (execs body env) (LawEnd h₀ env.locals c l cell its o own { s with heap := h, toks := tk } Q) E { s with heap := h, toks := tk })
    (done : ∀ (m₁ : Str → Option Value) (k : Int) (t : Tok) (h : Heap) (tk : Nat), 0 ≤ k → Fr h₀ env.locals h m₁ → News h₀ env.locals h [(c, crankObj l k t), (l, listOf its.toArray 0), (cell, o)] → Q .next { s with heap := h, toks := tk }) :
    wpAny (model prog w) A (pyIter (.ref r)) (fun it s₂ => LoopAtV prog w A h₀ env x body Q E it s₂) E s := by
  refine iter_rangeS (LawR c l cell its o) (fun a _ => a) () hh hr (small_one (by omega) (by omega) (by omega) (by omega)) (rangeSize_nat _ _) F N ⟨k, t, hk, rfl⟩ ?_ ?_
  · rintro n tn ⟨⟩ m₁ nx h tk own _ ho ⟨k, t, hk, rfl⟩ F' N'
    exact turn hn n tn k t m₁ h tk own hk (ho.ne (.head _)) F' N'
  · rintro m₁ nx h tk ⟨k, t, hk, rfl⟩ F' N'
    exact done m₁ k t h tk hk F' N'
end
theorem lt_of_g {g : Obj → List (Addr × Obj)} {b L : Addr} {o : Obj} {x : Addr × Obj} {h₀ h' : Heap} (l : ∀ o, ∀ p ∈ g o, p.1 < b) (_ : News h₀ L h' (x :: g o)) : ∀ p ∈ g o, p.1 < b := l o
variable {w : World} {mean : ExcName → Option Value} {mg mb : Str → Option Value} in
theorem make_pq {p q : Int} {tp tq : Tok} (hp : p.natAbs ≤ 10 ^ 12) (hq : q.natAbs ≤ 12) (h0 : q ≠ 0) : CallAt w mean mg mb 67 [.int p tp, .int q tq] 2
    (fun h₀ L m news s Q _ => ∀ (r : Rat) (b : Addr) (t1 t2 : Tok) (h' : Heap) (tk' : Nat), Sz 12 r → Fr h₀ L h' m → News h₀ L h' ((b, ratObj r t1 t2) :: news) → (∀ p ∈ news, p.1 < b) → Q (.ref b) { s with heap := h', toks := tk' }) := by
  intro dp un gd cn cs a ccd cl outer A₀ base h₀ L m news s Q E B F X N T hk hd hu ret
  have hs : Sz 12 (Rat.divInt p q) := sz_divInt hp (Nat.le_trans hq (by decide))
  exact make_at rfl h0 (dn_of (Nat.le_trans hq (by decide))) (Sz.mono hs (by decide)) dp un gd cn cs a ccd cl outer A₀ base h₀ L m news s Q E B F X N T hk hd hu
    (fun b t1 t2 h' tk' F' N' l => ret _ b t1 t2 h' tk' hs F' N' l)
theorem keepM {P Q : Prop} (p : P) (h : P → Q) : Q := h p
theorem lst1 {v : Int} (h : 0 ≤ v) : 2 ≤ 2 + v := by omega
theorem lst2 {v : Int} (h : v < 9) : 2 + v ≤ 10 := by omega
theorem str1 {v : Int} (h : 0 ≤ v) (h' : v < 21) : (v - 10).natAbs ≤ 10 := by omega
theorem lpw1 {v : Int} (h : 0 ≤ v) : -2 ≤ v - 2 := by omega
theorem lpw2 {v : Int} (h : v < 5) : v - 2 ≤ 2 := by omega
theorem callT_use {w : World} {mean : ExcName → Option Value} {mg mb : Str → Option Value} {f : Addr} {vs : List Value} {depth : Nat} {P : List (Addr × Obj) → Prop}
    {Ret : Heap → Addr → (Str → Option Value) → List (Addr × Obj) → Shared → (Value → Shared → Prop) → (Value → Shared → Prop) → Prop}
    {dp un : Nat} {gd : Option (List Code)} {cn : Str} {cs : Scope} {a : Addr} {ccd : Value} {cl : List (Str × Addr)} {A₀ : Around} {base h₀ : Heap} {L : Addr} {m : Str → Option Value} {news : List (Addr × Obj)} {s : Shared} {Q E : Value → Shared → Prop}
    (C : CallT w mean mg mb f vs depth P Ret)
    (B : Below A₀ base [] h₀) (F : Fr h₀ L s.heap m) (X : (Mine.hd.heap_39 w.params).In h₀) (N : News h₀ L s.heap news) (T : Top Mine.hd.view_39 (looseW Mine.hd.view_39 [Str.ofString "GREATEST"]) mean mg mb h₀) (hk : cs.kind = .function)
    (hP : P news) (hd : dp + depth < recursionLimit) (hu : un + 8 * depth < cLine) (ret : Ret h₀ L m news s Q E) :
    wpAny (model PySem.Challenge.rw_sa0001_01.row.prog w) (ktrTop dp un gd cn cs L a ccd cl []) (call (.ref f) vs) Q E s :=
  C dp un gd cn cs a ccd cl A₀ base h₀ L m news s Q E B F X N T hk hP hd hu ret
@[irreducible] def OffK (D : Addr) (r : List (Addr × Obj)) : Prop := LCg.Off1 D r
theorem OffK.of {D : Addr} {r : List (Addr × Obj)} (h : LCg.Off1 D r) : OffK D r := by unfold OffK; exact h
theorem OffK.ne {D c : Addr} {o : Obj} {r : List (Addr × Obj)} (h : OffK D r) (hm : (c, o) ∈ r) : D ≠ c := by
  unfold OffK at h
  induction r with
  | nil => exact nomatch hm
  | cons p r ih =>
    rcases List.mem_cons.mp hm with rfl | hm
    · exact Ne.symm h.1
    · exact ih h.2 hm
theorem off3_cons {I C D b : Addr} {ob : Obj} {r : List (Addr × Obj)} (h1 : b ≠ I) (h2 : b ≠ C) (h3 : b ≠ D) (h : LCg.Off3 I C D r) : LCg.Off3 I C D ((b, ob) :: r) := ⟨⟨h1, h2, h3⟩, h⟩
theorem comp_end1 {h₀ h' : Heap} {L I C D b : Addr} {m : Str → Option Value} {s₁ : Shared} {oI oC oD ob : Obj} {S : List (Addr × Obj) → Prop} {rest : Value → List (Addr × Obj) → Prop} {y : Value} {tk : Nat} {r : List (Addr × Obj)}
    (F : Fr h₀ L h' m) (N : News h₀ L h' ((b, ob) :: (I, oI) :: (C, oC) :: (D, oD) :: r)) (l1 : b ≠ I) (l2 : b ≠ C) (l3 : b ≠ D) (off : LCg.Off3 I C D r) (hS : S ((b, ob) :: r)) (q : rest y ((b, ob) :: r)) :
    LCg.CompEnd h₀ L m s₁ I oI C oC D oD S rest y { s₁ with heap := h', toks := tk } :=
  LCg.CompEnd.intro F N ((b, ob) :: r) (fun p hp => by
    rcases List.mem_cons.mp hp with rfl | hp
    · exact .tail _ (.head _)
    · rcases List.mem_cons.mp hp with rfl | hp
      · exact .tail _ (.tail _ (.head _))
      · rcases List.mem_cons.mp hp with rfl | hp
        · exact .tail _ (.tail _ (.tail _ (.head _)))
        · rcases List.mem_cons.mp hp with rfl | hp
          · exact .head _
          · exact .tail _ (.tail _ (.tail _ (.tail _ hp)))) (off3_cons l1 l2 l3 off) hS q
theorem ngt0 {a b : Nat} {R : Prop} (h : a < b ∧ R) : b ≠ a := Nat.ne_of_gt h.1
theorem ngz0 {a b : Nat} (h : a < b) : b ≠ a := Nat.ne_of_gt h
theorem ngt1 {a b : Nat} {A0 : Prop} {R : Prop} (h : A0 ∧ a < b ∧ R) : b ≠ a := Nat.ne_of_gt h.2.1
theorem ngz1 {a b : Nat} {A0 : Prop} (h : A0 ∧ a < b) : b ≠ a := Nat.ne_of_gt h.2
theorem ngt2 {a b : Nat} {A0 A1 : Prop} {R : Prop} (h : A0 ∧ A1 ∧ a < b ∧ R) : b ≠ a := Nat.ne_of_gt h.2.2.1
theorem ngz2 {a b : Nat} {A0 A1 : Prop} (h : A0 ∧ A1 ∧ a < b) : b ≠ a := Nat.ne_of_gt h.2.2
theorem ngt3 {a b : Nat} {A0 A1 A2 : Prop} {R : Prop} (h : A0 ∧ A1 ∧ A2 ∧ a < b ∧ R) : b ≠ a := Nat.ne_of_gt h.2.2.2.1
theorem ngz3 {a b : Nat} {A0 A1 A2 : Prop} (h : A0 ∧ A1 ∧ A2 ∧ a < b) : b ≠ a := Nat.ne_of_gt h.2.2.2
theorem ngt4 {a b : Nat} {A0 A1 A2 A3 : Prop} {R : Prop} (h : A0 ∧ A1 ∧ A2 ∧ A3 ∧ a < b ∧ R) : b ≠ a := Nat.ne_of_gt h.2.2.2.2.1
theorem ngz4 {a b : Nat} {A0 A1 A2 A3 : Prop} (h : A0 ∧ A1 ∧ A2 ∧ A3 ∧ a < b) : b ≠ a := Nat.ne_of_gt h.2.2.2.2
theorem ngt5 {a b : Nat} {A0 A1 A2 A3 A4 : Prop} {R : Prop} (h : A0 ∧ A1 ∧ A2 ∧ A3 ∧ A4 ∧ a < b ∧ R) : b ≠ a := Nat.ne_of_gt h.2.2.2.2.2.1
theorem ngz5 {a b : Nat} {A0 A1 A2 A3 A4 : Prop} (h : A0 ∧ A1 ∧ A2 ∧ A3 ∧ A4 ∧ a < b) : b ≠ a := Nat.ne_of_gt h.2.2.2.2.2
theorem ngt6 {a b : Nat} {A0 A1 A2 A3 A4 A5 : Prop} {R : Prop} (h : A0 ∧ A1 ∧ A2 ∧ A3 ∧ A4 ∧ A5 ∧ a < b ∧ R) : b ≠ a := Nat.ne_of_gt h.2.2.2.2.2.2.1
theorem ngz6 {a b : Nat} {A0 A1 A2 A3 A4 A5 : Prop} (h : A0 ∧ A1 ∧ A2 ∧ A3 ∧ A4 ∧ A5 ∧ a < b) : b ≠ a := Nat.ne_of_gt h.2.2.2.2.2.2
theorem ngt7 {a b : Nat} {A0 A1 A2 A3 A4 A5 A6 : Prop} {R : Prop} (h : A0 ∧ A1 ∧ A2 ∧ A3 ∧ A4 ∧ A5 ∧ A6 ∧ a < b ∧ R) : b ≠ a := Nat.ne_of_gt h.2.2.2.2.2.2.2.1
theorem ngz7 {a b : Nat} {A0 A1 A2 A3 A4 A5 A6 : Prop} (h : A0 ∧ A1 ∧ A2 ∧ A3 ∧ A4 ∧ A5 ∧ A6 ∧ a < b) : b ≠ a := Nat.ne_of_gt h.2.2.2.2.2.2.2
theorem ngt8 {a b : Nat} {A0 A1 A2 A3 A4 A5 A6 A7 : Prop} {R : Prop} (h : A0 ∧ A1 ∧ A2 ∧ A3 ∧ A4 ∧ A5 ∧ A6 ∧ A7 ∧ a < b ∧ R) : b ≠ a := Nat.ne_of_gt h.2.2.2.2.2.2.2.2.1
theorem ngz8 {a b : Nat} {A0 A1 A2 A3 A4 A5 A6 A7 : Prop} (h : A0 ∧ A1 ∧ A2 ∧ A3 ∧ A4 ∧ A5 ∧ A6 ∧ A7 ∧ a < b) : b ≠ a := Nat.ne_of_gt h.2.2.2.2.2.2.2.2
theorem ngt9 {a b : Nat} {A0 A1 A2 A3 A4 A5 A6 A7 A8 : Prop} {R : Prop} (h : A0 ∧ A1 ∧ A2 ∧ A3 ∧ A4 ∧ A5 ∧ A6 ∧ A7 ∧ A8 ∧ a < b ∧ R) : b ≠ a := Nat.ne_of_gt h.2.2.2.2.2.2.2.2.2.1
theorem ngz9 {a b : Nat} {A0 A1 A2 A3 A4 A5 A6 A7 A8 : Prop} (h : A0 ∧ A1 ∧ A2 ∧ A3 ∧ A4 ∧ A5 ∧ A6 ∧ A7 ∧ A8 ∧ a < b) : b ≠ a := Nat.ne_of_gt h.2.2.2.2.2.2.2.2.2
theorem ngt10 {a b : Nat} {A0 A1 A2 A3 A4 A5 A6 A7 A8 A9 : Prop} {R : Prop} (h : A0 ∧ A1 ∧ A2 ∧ A3 ∧ A4 ∧ A5 ∧ A6 ∧ A7 ∧ A8 ∧ A9 ∧ a < b ∧ R) : b ≠ a := Nat.ne_of_gt h.2.2.2.2.2.2.2.2.2.2.1
theorem ngz10 {a b : Nat} {A0 A1 A2 A3 A4 A5 A6 A7 A8 A9 : Prop} (h : A0 ∧ A1 ∧ A2 ∧ A3 ∧ A4 ∧ A5 ∧ A6 ∧ A7 ∧ A8 ∧ A9 ∧ a < b) : b ≠ a := Nat.ne_of_gt h.2.2.2.2.2.2.2.2.2.2
theorem ngt11 {a b : Nat} {A0 A1 A2 A3 A4 A5 A6 A7 A8 A9 A10 : Prop} {R : Prop} (h : A0 ∧ A1 ∧ A2 ∧ A3 ∧ A4 ∧ A5 ∧ A6 ∧ A7 ∧ A8 ∧ A9 ∧ A10 ∧ a < b ∧ R) : b ≠ a := Nat.ne_of_gt h.2.2.2.2.2.2.2.2.2.2.2.1
theorem ngz11 {a b : Nat} {A0 A1 A2 A3 A4 A5 A6 A7 A8 A9 A10 : Prop} (h : A0 ∧ A1 ∧ A2 ∧ A3 ∧ A4 ∧ A5 ∧ A6 ∧ A7 ∧ A8 ∧ A9 ∧ A10 ∧ a < b) : b ≠ a := Nat.ne_of_gt h.2.2.2.2.2.2.2.2.2.2.2
theorem ngt12 {a b : Nat} {A0 A1 A2 A3 A4 A5 A6 A7 A8 A9 A10 A11 : Prop} {R : Prop} (h : A0 ∧ A1 ∧ A2 ∧ A3 ∧ A4 ∧ A5 ∧ A6 ∧ A7 ∧ A8 ∧ A9 ∧ A10 ∧ A11 ∧ a < b ∧ R) : b ≠ a := Nat.ne_of_gt h.2.2.2.2.2.2.2.2.2.2.2.2.1
theorem ngz12 {a b : Nat} {A0 A1 A2 A3 A4 A5 A6 A7 A8 A9 A10 A11 : Prop} (h : A0 ∧ A1 ∧ A2 ∧ A3 ∧ A4 ∧ A5 ∧ A6 ∧ A7 ∧ A8 ∧ A9 ∧ A10 ∧ A11 ∧ a < b) : b ≠ a := Nat.ne_of_gt h.2.2.2.2.2.2.2.2.2.2.2.2
theorem ngt13 {a b : Nat} {A0 A1 A2 A3 A4 A5 A6 A7 A8 A9 A10 A11 A12 : Prop} {R : Prop} (h : A0 ∧ A1 ∧ A2 ∧ A3 ∧ A4 ∧ A5 ∧ A6 ∧ A7 ∧ A8 ∧ A9 ∧ A10 ∧ A11 ∧ A12 ∧ a < b ∧ R) : b ≠ a := Nat.ne_of_gt h.2.2.2.2.2.2.2.2.2.2.2.2.2.1
theorem ngz13 {a b : Nat} {A0 A1 A2 A3 A4 A5 A6 A7 A8 A9 A10 A11 A12 : Prop} (h : A0 ∧ A1 ∧ A2 ∧ A3 ∧ A4 ∧ A5 ∧ A6 ∧ A7 ∧ A8 ∧ A9 ∧ A10 ∧ A11 ∧ A12 ∧ a < b) : b ≠ a := Nat.ne_of_gt h.2.2.2.2.2.2.2.2.2.2.2.2.2
theorem ngt14 {a b : Nat} {A0 A1 A2 A3 A4 A5 A6 A7 A8 A9 A10 A11 A12 A13 : Prop} {R : Prop} (h : A0 ∧ A1 ∧ A2 ∧ A3 ∧ A4 ∧ A5 ∧ A6 ∧ A7 ∧ A8 ∧ A9 ∧ A10 ∧ A11 ∧ A12 ∧ A13 ∧ a < b ∧ R) : b ≠ a := Nat.ne_of_gt h.2.2.2.2.2.2.2.2.2.2.2.2.2.2.1
theorem ngz14 {a b : Nat} {A0 A1 A2 A3 A4 A5 A6 A7 A8 A9 A10 A11 A12 A13 : Prop} (h : A0 ∧ A1 ∧ A2 ∧ A3 ∧ A4 ∧ A5 ∧ A6 ∧ A7 ∧ A8 ∧ A9 ∧ A10 ∧ A11 ∧ A12 ∧ A13 ∧ a < b) : b ≠ a := Nat.ne_of_gt h.2.2.2.2.2.2.2.2.2.2.2.2.2.2
theorem nofI0 {l I C D : Nat} {R : Prop} (h : (l ≠ I ∧ l ≠ C ∧ l ≠ D) ∧ R) : I ≠ l := Ne.symm h.1.1
theorem nofC0 {l I C D : Nat} {R : Prop} (h : (l ≠ I ∧ l ≠ C ∧ l ≠ D) ∧ R) : C ≠ l := Ne.symm h.1.2.1
theorem nofD0 {l I C D : Nat} {R : Prop} (h : (l ≠ I ∧ l ≠ C ∧ l ≠ D) ∧ R) : D ≠ l := Ne.symm h.1.2.2
theorem nofI1 {l I C D : Nat} {A0 : Prop} {R : Prop} (h : A0 ∧ (l ≠ I ∧ l ≠ C ∧ l ≠ D) ∧ R) : I ≠ l := Ne.symm h.2.1.1
theorem nofC1 {l I C D : Nat} {A0 : Prop} {R : Prop} (h : A0 ∧ (l ≠ I ∧ l ≠ C ∧ l ≠ D) ∧ R) : C ≠ l := Ne.symm h.2.1.2.1
theorem nofD1 {l I C D : Nat} {A0 : Prop} {R : Prop} (h : A0 ∧ (l ≠ I ∧ l ≠ C ∧ l ≠ D) ∧ R) : D ≠ l := Ne.symm h.2.1.2.2
theorem nofI2 {l I C D : Nat} {A0 A1 : Prop} {R : Prop} (h : A0 ∧ A1 ∧ (l ≠ I ∧ l ≠ C ∧ l ≠ D) ∧ R) : I ≠ l := Ne.symm h.2.2.1.1
theorem nofC2 {l I C D : Nat} {A0 A1 : Prop} {R : Prop} (h : A0 ∧ A1 ∧ (l ≠ I ∧ l ≠ C ∧ l ≠ D) ∧ R) : C ≠ l := Ne.symm h.2.2.1.2.1
theorem nofD2 {l I C D : Nat} {A0 A1 : Prop} {R : Prop} (h : A0 ∧ A1 ∧ (l ≠ I ∧ l ≠ C ∧ l ≠ D) ∧ R) : D ≠ l := Ne.symm h.2.2.1.2.2
theorem nofI3 {l I C D : Nat} {A0 A1 A2 : Prop} {R : Prop} (h : A0 ∧ A1 ∧ A2 ∧ (l ≠ I ∧ l ≠ C ∧ l ≠ D) ∧ R) : I ≠ l := Ne.symm h.2.2.2.1.1
theorem nofC3 {l I C D : Nat} {A0 A1 A2 : Prop} {R : Prop} (h : A0 ∧ A1 ∧ A2 ∧ (l ≠ I ∧ l ≠ C ∧ l ≠ D) ∧ R) : C ≠ l := Ne.symm h.2.2.2.1.2.1
theorem nofD3 {l I C D : Nat} {A0 A1 A2 : Prop} {R : Prop} (h : A0 ∧ A1 ∧ A2 ∧ (l ≠ I ∧ l ≠ C ∧ l ≠ D) ∧ R) : D ≠ l := Ne.symm h.2.2.2.1.2.2
theorem nofI4 {l I C D : Nat} {A0 A1 A2 A3 : Prop} {R : Prop} (h : A0 ∧ A1 ∧ A2 ∧ A3 ∧ (l ≠ I ∧ l ≠ C ∧ l ≠ D) ∧ R) : I ≠ l := Ne.symm h.2.2.2.2.1.1
theorem nofC4 {l I C D : Nat} {A0 A1 A2 A3 : Prop} {R : Prop} (h : A0 ∧ A1 ∧ A2 ∧ A3 ∧ (l ≠ I ∧ l ≠ C ∧ l ≠ D) ∧ R) : C ≠ l := Ne.symm h.2.2.2.2.1.2.1
theorem nofD4 {l I C D : Nat} {A0 A1 A2 A3 : Prop} {R : Prop} (h : A0 ∧ A1 ∧ A2 ∧ A3 ∧ (l ≠ I ∧ l ≠ C ∧ l ≠ D) ∧ R) : D ≠ l := Ne.symm h.2.2.2.2.1.2.2
theorem nofI5 {l I C D : Nat} {A0 A1 A2 A3 A4 : Prop} {R : Prop} (h : A0 ∧ A1 ∧ A2 ∧ A3 ∧ A4 ∧ (l ≠ I ∧ l ≠ C ∧ l ≠ D) ∧ R) : I ≠ l := Ne.symm h.2.2.2.2.2.1.1
theorem nofC5 {l I C D : Nat} {A0 A1 A2 A3 A4 : Prop} {R : Prop} (h : A0 ∧ A1 ∧ A2 ∧ A3 ∧ A4 ∧ (l ≠ I ∧ l ≠ C ∧ l ≠ D) ∧ R) : C ≠ l := Ne.symm h.2.2.2.2.2.1.2.1
theorem nofD5 {l I C D : Nat} {A0 A1 A2 A3 A4 : Prop} {R : Prop} (h : A0 ∧ A1 ∧ A2 ∧ A3 ∧ A4 ∧ (l ≠ I ∧ l ≠ C ∧ l ≠ D) ∧ R) : D ≠ l := Ne.symm h.2.2.2.2.2.1.2.2
theorem nofI6 {l I C D : Nat} {A0 A1 A2 A3 A4 A5 : Prop} {R : Prop} (h : A0 ∧ A1 ∧ A2 ∧ A3 ∧ A4 ∧ A5 ∧ (l ≠ I ∧ l ≠ C ∧ l ≠ D) ∧ R) : I ≠ l := Ne.symm h.2.2.2.2.2.2.1.1
theorem nofC6 {l I C D : Nat} {A0 A1 A2 A3 A4 A5 : Prop} {R : Prop} (h : A0 ∧ A1 ∧ A2 ∧ A3 ∧ A4 ∧ A5 ∧ (l ≠ I ∧ l ≠ C ∧ l ≠ D) ∧ R) : C ≠ l := Ne.symm h.2.2.2.2.2.2.1.2.1
theorem nofD6 {l I C D : Nat} {A0 A1 A2 A3 A4 A5 : Prop} {R : Prop} (h : A0 ∧ A1 ∧ A2 ∧ A3 ∧ A4 ∧ A5 ∧ (l ≠ I ∧ l ≠ C ∧ l ≠ D) ∧ R) : D ≠ l := Ne.symm h.2.2.2.2.2.2.1.2.2
section
theorem rows_Z2_1 : True := by
  k_with_none
  k_with "call ref" => (k_here; (with_reducible show wpAny _ _ (call (Value.ref 153) [Value.ref _, Value.int _ _]) _ _ _); k_dflt (refine' callC_use (turn_spec ?z1 ?z2 ?z3) ?k1 ?k2 ?k3 ?k4 ?k5 ?kK ?kU ?kL ?kI ?kN ?k0 ?kd ?ku ?_; (case k1 => k_asm); (case k2 => k_asm); (case k3 => k_asm); (case k4 => k_asm); (case k5 => k_asm); (case kK => first | exact rfl | assumption); (case kU => ((first | refine (UpdF.head ?_) | refine (UpdF.tail ?_ (UpdF.head ?_)) | refine (UpdF.tail ?_ (UpdF.tail ?_ (UpdF.head ?_))) | refine (UpdF.tail ?_ (UpdF.tail ?_ (UpdF.tail ?_ (UpdF.head ?_)))) | refine (UpdF.tail ?_ (UpdF.tail ?_ (UpdF.tail ?_ (UpdF.tail ?_ (UpdF.head ?_))))) | refine (UpdF.tail ?_ (UpdF.tail ?_ (UpdF.tail ?_ (UpdF.tail ?_ (UpdF.tail ?_ (UpdF.head ?_)))))) | refine (UpdF.tail ?_ (UpdF.tail ?_ (UpdF.tail ?_ (UpdF.tail ?_ (UpdF.tail ?_ (UpdF.tail ?_ (UpdF.head ?_))))))) | refine (UpdF.tail ?_ (UpdF.tail ?_ (UpdF.tail ?_ (UpdF.tail ?_ (UpdF.tail ?_ (UpdF.tail ?_ (UpdF.tail ?_ (UpdF.head ?_)))))))) | refine (UpdF.tail ?_ (UpdF.tail ?_ (UpdF.tail ?_ (UpdF.tail ?_ (UpdF.tail ?_ (UpdF.tail ?_ (UpdF.tail ?_ (UpdF.tail ?_ (UpdF.head ?_))))))))) | refine (UpdF.tail ?_ (UpdF.tail ?_ (UpdF.tail ?_ (UpdF.tail ?_ (UpdF.tail ?_ (UpdF.tail ?_ (UpdF.tail ?_ (UpdF.tail ?_ (UpdF.tail ?_ (UpdF.head ?_)))))))))) | refine (UpdF.tail ?_ (UpdF.tail ?_ (UpdF.tail ?_ (UpdF.tail ?_ (UpdF.tail ?_ (UpdF.tail ?_ (UpdF.tail ?_ (UpdF.tail ?_ (UpdF.tail ?_ (UpdF.tail ?_ (UpdF.head ?_))))))))))) | refine (UpdF.tail ?_ (UpdF.tail ?_ (UpdF.tail ?_ (UpdF.tail ?_ (UpdF.tail ?_ (UpdF.tail ?_ (UpdF.tail ?_ (UpdF.tail ?_ (UpdF.tail ?_ (UpdF.tail ?_ (UpdF.tail ?_ (UpdF.head ?_))))))))))))) <;> (repeat' first | with_reducible assumption | (with_reducible refine List.forall_mem_cons.mpr ⟨?_, ?_⟩) | with_reducible exact List.forall_mem_nil _ | (refine' OffK.ne ?h ?m; (case h => with_reducible assumption); (case m => k_mem)) | with_reducible exact ngt0 (by assumption) | with_reducible exact ngt1 (by assumption) | with_reducible exact ngt2 (by assumption) | with_reducible exact ngt3 (by assumption) | with_reducible exact ngt4 (by assumption) | with_reducible exact ngt5 (by assumption) | with_reducible exact ngt6 (by assumption) | with_reducible exact ngt7 (by assumption) | with_reducible exact ngt8 (by assumption) | with_reducible exact ngt9 (by assumption) | with_reducible exact ngt10 (by assumption) | with_reducible exact ngt11 (by assumption) | with_reducible exact ngt12 (by assumption) | with_reducible exact ngt13 (by assumption) | with_reducible exact ngt14 (by assumption) | with_reducible exact ngz0 (by assumption) | with_reducible exact ngz1 (by assumption) | with_reducible exact ngz2 (by assumption) | with_reducible exact ngz3 (by assumption) | with_reducible exact ngz4 (by assumption) | with_reducible exact ngz5 (by assumption) | with_reducible exact ngz6 (by assumption) | with_reducible exact ngz7 (by assumption) | with_reducible exact ngz8 (by assumption) | with_reducible exact ngz9 (by assumption) | with_reducible exact ngz10 (by assumption) | with_reducible exact ngz11 (by assumption) | with_reducible exact ngz12 (by assumption) | with_reducible exact ngz13 (by assumption) | with_reducible exact ngz14 (by assumption) | with_reducible exact Ne.symm (ngt0 (by assumption)) | with_reducible exact Ne.symm (ngt1 (by assumption)) | with_reducible exact Ne.symm (ngt2 (by assumption)) | with_reducible exact Ne.symm (ngt3 (by assumption)) | with_reducible exact Ne.symm (ngt4 (by assumption)) | with_reducible exact Ne.symm (ngt5 (by assumption)) | with_reducible exact Ne.symm (ngt6 (by assumption)) | with_reducible exact Ne.symm (ngt7 (by assumption)) | with_reducible exact Ne.symm (ngt8 (by assumption)) | with_reducible exact Ne.symm (ngt9 (by assumption)) | with_reducible exact Ne.symm (ngt10 (by assumption)) | with_reducible exact Ne.symm (ngt11 (by assumption)) | with_reducible exact Ne.symm (ngt12 (by assumption)) | with_reducible exact Ne.symm (ngt13 (by assumption)) | with_reducible exact Ne.symm (ngt14 (by assumption)) | with_reducible exact Ne.symm (ngz0 (by assumption)) | with_reducible exact Ne.symm (ngz1 (by assumption)) | with_reducible exact Ne.symm (ngz2 (by assumption)) | with_reducible exact Ne.symm (ngz3 (by assumption)) | with_reducible exact Ne.symm (ngz4 (by assumption)) | with_reducible exact Ne.symm (ngz5 (by assumption)) | with_reducible exact Ne.symm (ngz6 (by assumption)) | with_reducible exact Ne.symm (ngz7 (by assumption)) | with_reducible exact Ne.symm (ngz8 (by assumption)) | with_reducible exact Ne.symm (ngz9 (by assumption)) | with_reducible exact Ne.symm (ngz10 (by assumption)) | with_reducible exact Ne.symm (ngz11 (by assumption)) | with_reducible exact Ne.symm (ngz12 (by assumption)) | with_reducible exact Ne.symm (ngz13 (by assumption)) | with_reducible exact Ne.symm (ngz14 (by assumption)) | with_reducible exact nofI0 (by assumption) | with_reducible exact nofC0 (by assumption) | with_reducible exact nofD0 (by assumption) | with_reducible exact nofI1 (by assumption) | with_reducible exact nofC1 (by assumption) | with_reducible exact nofD1 (by assumption) | with_reducible exact nofI2 (by assumption) | with_reducible exact nofC2 (by assumption) | with_reducible exact nofD2 (by assumption) | with_reducible exact nofI3 (by assumption) | with_reducible exact nofC3 (by assumption) | with_reducible exact nofD3 (by assumption) | with_reducible exact nofI4 (by assumption) | with_reducible exact nofC4 (by assumption) | with_reducible exact nofD4 (by assumption) | with_reducible exact nofI5 (by assumption) | with_reducible exact nofC5 (by assumption) | with_reducible exact nofD5 (by assumption) | with_reducible exact nofI6 (by assumption) | with_reducible exact nofC6 (by assumption) | with_reducible exact nofD6 (by assumption) | k_ne))); (case kL => k_mem); (case kI => with_reducible assumption); (case kN => first | with_reducible assumption | omega); (case k0 => first | with_reducible assumption | omega); (case z1 => decide); (case z2 => decide); (case z3 => first | with_reducible exact ngt0 (by assumption) | with_reducible exact ngt1 (by assumption) | with_reducible exact ngt2 (by assumption) | with_reducible exact ngt3 (by assumption) | with_reducible exact ngt4 (by assumption) | with_reducible exact ngt5 (by assumption) | with_reducible exact ngt6 (by assumption) | with_reducible exact ngt7 (by assumption) | with_reducible exact ngt8 (by assumption) | with_reducible exact ngt9 (by assumption) | with_reducible exact ngt10 (by assumption) | with_reducible exact ngt11 (by assumption) | with_reducible exact ngt12 (by assumption) | with_reducible exact ngt13 (by assumption) | with_reducible exact ngt14 (by assumption) | with_reducible exact ngz0 (by assumption) | with_reducible exact ngz1 (by assumption) | with_reducible exact ngz2 (by assumption) | with_reducible exact ngz3 (by assumption) | with_reducible exact ngz4 (by assumption) | with_reducible exact ngz5 (by assumption) | with_reducible exact ngz6 (by assumption) | with_reducible exact ngz7 (by assumption) | with_reducible exact ngz8 (by assumption) | with_reducible exact ngz9 (by assumption) | with_reducible exact ngz10 (by assumption) | with_reducible exact ngz11 (by assumption) | with_reducible exact ngz12 (by assumption) | with_reducible exact ngz13 (by assumption) | with_reducible exact ngz14 (by assumption) | with_reducible exact Ne.symm (ngt0 (by assumption)) | with_reducible exact Ne.symm (ngt1 (by assumption)) | with_reducible exact Ne.symm (ngt2 (by assumption)) | with_reducible exact Ne.symm (ngt3 (by assumption)) | with_reducible exact Ne.symm (ngt4 (by assumption)) | with_reducible exact Ne.symm (ngt5 (by assumption)) | with_reducible exact Ne.symm (ngt6 (by assumption)) | with_reducible exact Ne.symm (ngt7 (by assumption)) | with_reducible exact Ne.symm (ngt8 (by assumption)) | with_reducible exact Ne.symm (ngt9 (by assumption)) | with_reducible exact Ne.symm (ngt10 (by assumption)) | with_reducible exact Ne.symm (ngt11 (by assumption)) | with_reducible exact Ne.symm (ngt12 (by assumption)) | with_reducible exact Ne.symm (ngt13 (by assumption)) | with_reducible exact Ne.symm (ngt14 (by assumption)) | with_reducible exact Ne.symm (ngz0 (by assumption)) | with_reducible exact Ne.symm (ngz1 (by assumption)) | with_reducible exact Ne.symm (ngz2 (by assumption)) | with_reducible exact Ne.symm (ngz3 (by assumption)) | with_reducible exact Ne.symm (ngz4 (by assumption)) | with_reducible exact Ne.symm (ngz5 (by assumption)) | with_reducible exact Ne.symm (ngz6 (by assumption)) | with_reducible exact Ne.symm (ngz7 (by assumption)) | with_reducible exact Ne.symm (ngz8 (by assumption)) | with_reducible exact Ne.symm (ngz9 (by assumption)) | with_reducible exact Ne.symm (ngz10 (by assumption)) | with_reducible exact Ne.symm (ngz11 (by assumption)) | with_reducible exact Ne.symm (ngz12 (by assumption)) | with_reducible exact Ne.symm (ngz13 (by assumption)) | with_reducible exact Ne.symm (ngz14 (by assumption)) | with_reducible exact nofI0 (by assumption) | with_reducible exact nofC0 (by assumption) | with_reducible exact nofD0 (by assumption) | with_reducible exact nofI1 (by assumption) | with_reducible exact nofC1 (by assumption) | with_reducible exact nofD1 (by assumption) | with_reducible exact nofI2 (by assumption) | with_reducible exact nofC2 (by assumption) | with_reducible exact nofD2 (by assumption) | with_reducible exact nofI3 (by assumption) | with_reducible exact nofC3 (by assumption) | with_reducible exact nofD3 (by assumption) | with_reducible exact nofI4 (by assumption) | with_reducible exact nofC4 (by assumption) | with_reducible exact nofD4 (by assumption) | with_reducible exact nofI5 (by assumption) | with_reducible exact nofC5 (by assumption) | with_reducible exact nofD5 (by assumption) | with_reducible exact nofI6 (by assumption) | with_reducible exact nofC6 (by assumption) | with_reducible exact nofD6 (by assumption) | k_ne); (case kd => first | decide | ktr_room); (case ku => first | decide | ktr_units)); intro v9 tv9 k9 t9 h9 tk9 b1 b2 b3 F9 N9; (try dsimp only at N9 ⊢); (try k_fold))
  k_with "call ref" => (k_here; (with_reducible show wpAny _ _ (call (Value.ref 160) [Value.ref _]) _ _ _); k_dflt (refine' callC_use (parts_spec ?z3) ?k1 ?k2 ?k3 ?k4 ?k5 ?kK ?kU ?kL ?kI ?kN ?k0 ?kd ?ku ?_; (case k1 => k_asm); (case k2 => k_asm); (case k3 => k_asm); (case k4 => k_asm); (case k5 => k_asm); (case kK => first | exact rfl | assumption); (case kU => ((first | refine (UpdF.head ?_) | refine (UpdF.tail ?_ (UpdF.head ?_)) | refine (UpdF.tail ?_ (UpdF.tail ?_ (UpdF.head ?_))) | refine (UpdF.tail ?_ (UpdF.tail ?_ (UpdF.tail ?_ (UpdF.head ?_)))) | refine (UpdF.tail ?_ (UpdF.tail ?_ (UpdF.tail ?_ (UpdF.tail ?_ (UpdF.head ?_))))) | refine (UpdF.tail ?_ (UpdF.tail ?_ (UpdF.tail ?_ (UpdF.tail ?_ (UpdF.tail ?_ (UpdF.head ?_)))))) | refine (UpdF.tail ?_ (UpdF.tail ?_ (UpdF.tail ?_ (UpdF.tail ?_ (UpdF.tail ?_ (UpdF.tail ?_ (UpdF.head ?_))))))) | refine (UpdF.tail ?_ (UpdF.tail ?_ (UpdF.tail ?_ (UpdF.tail ?_ (UpdF.tail ?_ (UpdF.tail ?_ (UpdF.tail ?_ (UpdF.head ?_)))))))) | refine (UpdF.tail ?_ (UpdF.tail ?_ (UpdF.tail ?_ (UpdF.tail ?_ (UpdF.tail ?_ (UpdF.tail ?_ (UpdF.tail ?_ (UpdF.tail ?_ (UpdF.head ?_))))))))) | refine (UpdF.tail ?_ (UpdF.tail ?_ (UpdF.tail ?_ (UpdF.tail ?_ (UpdF.tail ?_ (UpdF.tail ?_ (UpdF.tail ?_ (UpdF.tail ?_ (UpdF.tail ?_ (UpdF.head ?_)))))))))) | refine (UpdF.tail ?_ (UpdF.tail ?_ (UpdF.tail ?_ (UpdF.tail ?_ (UpdF.tail ?_ (UpdF.tail ?_ (UpdF.tail ?_ (UpdF.tail ?_ (UpdF.tail ?_ (UpdF.tail ?_ (UpdF.head ?_))))))))))) | refine (UpdF.tail ?_ (UpdF.tail ?_ (UpdF.tail ?_ (UpdF.tail ?_ (UpdF.tail ?_ (UpdF.tail ?_ (UpdF.tail ?_ (UpdF.tail ?_ (UpdF.tail ?_ (UpdF.tail ?_ (UpdF.tail ?_ (UpdF.head ?_))))))))))))) <;> (repeat' first | with_reducible assumption | (with_reducible refine List.forall_mem_cons.mpr ⟨?_, ?_⟩) | with_reducible exact List.forall_mem_nil _ | (refine' OffK.ne ?h ?m; (case h => with_reducible assumption); (case m => k_mem)) | with_reducible exact ngt0 (by assumption) | with_reducible exact ngt1 (by assumption) | with_reducible exact ngt2 (by assumption) | with_reducible exact ngt3 (by assumption) | with_reducible exact ngt4 (by assumption) | with_reducible exact ngt5 (by assumption) | with_reducible exact ngt6 (by assumption) | with_reducible exact ngt7 (by assumption) | with_reducible exact ngt8 (by assumption) | with_reducible exact ngt9 (by assumption) | with_reducible exact ngt10 (by assumption) | with_reducible exact ngt11 (by assumption) | with_reducible exact ngt12 (by assumption) | with_reducible exact ngt13 (by assumption) | with_reducible exact ngt14 (by assumption) | with_reducible exact ngz0 (by assumption) | with_reducible exact ngz1 (by assumption) | with_reducible exact ngz2 (by assumption) | with_reducible exact ngz3 (by assumption) | with_reducible exact ngz4 (by assumption) | with_reducible exact ngz5 (by assumption) | with_reducible exact ngz6 (by assumption) | with_reducible exact ngz7 (by assumption) | with_reducible exact ngz8 (by assumption) | with_reducible exact ngz9 (by assumption) | with_reducible exact ngz10 (by assumption) | with_reducible exact ngz11 (by assumption) | with_reducible exact ngz12 (by assumption) | with_reducible exact ngz13 (by assumption) | with_reducible exact ngz14 (by assumption) | with_reducible exact Ne.symm (ngt0 (by assumption)) | with_reducible exact Ne.symm (ngt1 (by assumption)) | with_reducible exact Ne.symm (ngt2 (by assumption)) | with_reducible exact Ne.symm (ngt3 (by assumption)) | with_reducible exact Ne.symm (ngt4 (by assumption)) | with_reducible exact Ne.symm (ngt5 (by assumption)) | with_reducible exact Ne.symm (ngt6 (by assumption)) | with_reducible exact Ne.symm (ngt7 (by assumption)) | with_reducible exact Ne.symm (ngt8 (by assumption)) | with_reducible exact Ne.symm (ngt9 (by assumption)) | with_reducible exact Ne.symm (ngt10 (by assumption)) | with_reducible exact Ne.symm (ngt11 (by assumption)) | with_reducible exact Ne.symm (ngt12 (by assumption)) | with_reducible exact Ne.symm (ngt13 (by assumption)) | with_reducible exact Ne.symm (ngt14 (by assumption)) | with_reducible exact Ne.symm (ngz0 (by assumption)) | with_reducible exact Ne.symm (ngz1 (by assumption)) | with_reducible exact Ne.symm (ngz2 (by assumption)) | with_reducible exact Ne.symm (ngz3 (by assumption)) | with_reducible exact Ne.symm (ngz4 (by assumption)) | with_reducible exact Ne.symm (ngz5 (by assumption)) | with_reducible exact Ne.symm (ngz6 (by assumption)) | with_reducible exact Ne.symm (ngz7 (by assumption)) | with_reducible exact Ne.symm (ngz8 (by assumption)) | with_reducible exact Ne.symm (ngz9 (by assumption)) | with_reducible exact Ne.symm (ngz10 (by assumption)) | with_reducible exact Ne.symm (ngz11 (by assumption)) | with_reducible exact Ne.symm (ngz12 (by assumption)) | with_reducible exact Ne.symm (ngz13 (by assumption)) | with_reducible exact Ne.symm (ngz14 (by assumption)) | with_reducible exact nofI0 (by assumption) | with_reducible exact nofC0 (by assumption) | with_reducible exact nofD0 (by assumption) | with_reducible exact nofI1 (by assumption) | with_reducible exact nofC1 (by assumption) | with_reducible exact nofD1 (by assumption) | with_reducible exact nofI2 (by assumption) | with_reducible exact nofC2 (by assumption) | with_reducible exact nofD2 (by assumption) | with_reducible exact nofI3 (by assumption) | with_reducible exact nofC3 (by assumption) | with_reducible exact nofD3 (by assumption) | with_reducible exact nofI4 (by assumption) | with_reducible exact nofC4 (by assumption) | with_reducible exact nofD4 (by assumption) | with_reducible exact nofI5 (by assumption) | with_reducible exact nofC5 (by assumption) | with_reducible exact nofD5 (by assumption) | with_reducible exact nofI6 (by assumption) | with_reducible exact nofC6 (by assumption) | with_reducible exact nofD6 (by assumption) | k_ne))); (case kL => k_mem); (case kI => with_reducible assumption); (case kN => first | with_reducible assumption | omega); (case k0 => first | with_reducible assumption | omega); (case z3 => first | with_reducible exact ngt0 (by assumption) | with_reducible exact ngt1 (by assumption) | with_reducible exact ngt2 (by assumption) | with_reducible exact ngt3 (by assumption) | with_reducible exact ngt4 (by assumption) | with_reducible exact ngt5 (by assumption) | with_reducible exact ngt6 (by assumption) | with_reducible exact ngt7 (by assumption) | with_reducible exact ngt8 (by assumption) | with_reducible exact ngt9 (by assumption) | with_reducible exact ngt10 (by assumption) | with_reducible exact ngt11 (by assumption) | with_reducible exact ngt12 (by assumption) | with_reducible exact ngt13 (by assumption) | with_reducible exact ngt14 (by assumption) | with_reducible exact ngz0 (by assumption) | with_reducible exact ngz1 (by assumption) | with_reducible exact ngz2 (by assumption) | with_reducible exact ngz3 (by assumption) | with_reducible exact ngz4 (by assumption) | with_reducible exact ngz5 (by assumption) | with_reducible exact ngz6 (by assumption) | with_reducible exact ngz7 (by assumption) | with_reducible exact ngz8 (by assumption) | with_reducible exact ngz9 (by assumption) | with_reducible exact ngz10 (by assumption) | with_reducible exact ngz11 (by assumption) | with_reducible exact ngz12 (by assumption) | with_reducible exact ngz13 (by assumption) | with_reducible exact ngz14 (by assumption) | with_reducible exact Ne.symm (ngt0 (by assumption)) | with_reducible exact Ne.symm (ngt1 (by assumption)) | with_reducible exact Ne.symm (ngt2 (by assumption)) | with_reducible exact Ne.symm (ngt3 (by assumption)) | with_reducible exact Ne.symm (ngt4 (by assumption)) | with_reducible exact Ne.symm (ngt5 (by assumption)) | with_reducible exact Ne.symm (ngt6 (by assumption)) | with_reducible exact Ne.symm (ngt7 (by assumption)) | with_reducible exact Ne.symm (ngt8 (by assumption)) | with_reducible exact Ne.symm (ngt9 (by assumption)) | with_reducible exact Ne.symm (ngt10 (by assumption)) | with_reducible exact Ne.symm (ngt11 (by assumption)) | with_reducible exact Ne.symm (ngt12 (by assumption)) | with_reducible exact Ne.symm (ngt13 (by assumption)) | with_reducible exact Ne.symm (ngt14 (by assumption)) | with_reducible exact Ne.symm (ngz0 (by assumption)) | with_reducible exact Ne.symm (ngz1 (by assumption)) | with_reducible exact Ne.symm (ngz2 (by assumption)) | with_reducible exact Ne.symm (ngz3 (by assumption)) | with_reducible exact Ne.symm (ngz4 (by assumption)) | with_reducible exact Ne.symm (ngz5 (by assumption)) | with_reducible exact Ne.symm (ngz6 (by assumption)) | with_reducible exact Ne.symm (ngz7 (by assumption)) | with_reducible exact Ne.symm (ngz8 (by assumption)) | with_reducible exact Ne.symm (ngz9 (by assumption)) | with_reducible exact Ne.symm (ngz10 (by assumption)) | with_reducible exact Ne.symm (ngz11 (by assumption)) | with_reducible exact Ne.symm (ngz12 (by assumption)) | with_reducible exact Ne.symm (ngz13 (by assumption)) | with_reducible exact Ne.symm (ngz14 (by assumption)) | with_reducible exact nofI0 (by assumption) | with_reducible exact nofC0 (by assumption) | with_reducible exact nofD0 (by assumption) | with_reducible exact nofI1 (by assumption) | with_reducible exact nofC1 (by assumption) | with_reducible exact nofD1 (by assumption) | with_reducible exact nofI2 (by assumption) | with_reducible exact nofC2 (by assumption) | with_reducible exact nofD2 (by assumption) | with_reducible exact nofI3 (by assumption) | with_reducible exact nofC3 (by assumption) | with_reducible exact nofD3 (by assumption) | with_reducible exact nofI4 (by assumption) | with_reducible exact nofC4 (by assumption) | with_reducible exact nofD4 (by assumption) | with_reducible exact nofI5 (by assumption) | with_reducible exact nofC5 (by assumption) | with_reducible exact nofD5 (by assumption) | with_reducible exact nofI6 (by assumption) | with_reducible exact nofC6 (by assumption) | with_reducible exact nofD6 (by assumption) | k_ne); (case kd => first | decide | ktr_room); (case ku => first | decide | ktr_units)); intro b9 p9 q9 t9 u9 k9 t9' h9 tk9 b1 b2 b3 b4 F9 N9 l9; refine keepM (lt_of_g l9 N9) ?_; clear l9; intro m9; k_lt m9; (try dsimp only at N9 ⊢); (try k_fold))
  k_with "pyIter ref" => (k_here; k_dflt (refine' law_loop ?h1 ?h2 ?h3 ?h4 ?F ?N ?h5 ?hn ?hi ?_ ?_; (case h1 => exact rfl); (case h2 => assumption); (case F => k_asm); (case N => k_asm); (case h3 => assumption); (case h4 => assumption); (case h5 => assumption); (case hi => with_reducible assumption); (case hn => omega)); (try dsimp only))
  k_with "exec Assign cons ListComp" => (k_here; k_dflt (refine LCg.Assign_ListComp_U (F₀ := by k_asm) (by rfl) (by with_unfolding_all rfl) (by with_unfolding_all rfl) (by decide) (by rfl) (by decide) (by rfl) (by rfl) (by rfl) ?_); k_dflt lcg_toSrc)
  k_with "CompSrc" => (k_here; k_dflt (refine LCg.CompSrc.range (by rfl) (by k_asm) (by k_asm) (by assumption) (by first | decide | rfl) (by first | rfl | decide) (by first | size_fits | exact Nat.le_of_ble_eq_true rfl) ?_; intro g'; lcg_lit))
  k_with "eval ListComp" => (k_here; lcp_look; k_dflt (refine LCp.ListComp_P (F₀ := by k_asm) (by with_unfolding_all rfl) (by decide) (by rfl) (by decide) (by rfl) (by rfl) (by decide) ?_); k_dflt lcp_toSrc)
  k_with "call ref" => (k_here; (with_reducible show wpAny _ _ (call (Value.ref 67) [Value.int _ _, Value.int _ _]) _ _ _); k_dflt (refine' callAt_use (make_pq ?h1 ?h2 ?h3) ?k1 ?k2 ?k3 ?k4 ?k5 ?kK ?kd ?ku ?_; (case h1 => with_reducible assumption); (case h2 => with_reducible assumption); (case h3 => with_reducible assumption); (case k1 => k_asm); (case k2 => k_asm); (case k3 => k_asm); (case k4 => k_asm); (case k5 => k_asm); (case kK => first | exact rfl | assumption); (case kd => first | decide | ktr_room); (case ku => first | decide | ktr_units)); intro r9 b9 t9 u9 h9 tk9 z9 F9 N9 l9; refine keepM (allLt_of l9) ?_; clear l9; intro l9; (simp only [AllLt, and_true] at l9); (try dsimp only at N9 ⊢); (try k_fold))
  k_with "call ref" => (k_here; (with_reducible show wpAny _ _ (call (Value.ref 174) [Value.int _ _, Value.int _ _, Value.int _ _]) _ _ _); k_dflt (refine' callAt_use (least_spec ?z1 ?z2 ?z3 ?z4 ?z5) ?k1 ?k2 ?k3 ?k4 ?k5 ?kK ?kd ?ku ?_; (case k1 => k_asm); (case k2 => k_asm); (case k3 => k_asm); (case k4 => k_asm); (case k5 => k_asm); (case kK => first | exact rfl | assumption);  (case z1 => with_reducible assumption);(case z2 => with_reducible assumption);(case z3 => with_reducible assumption);(case z4 => with_reducible exact lst1 (by assumption)); (case z5 => with_reducible exact lst2 (by assumption)); (case kd => first | decide | ktr_room); (case ku => first | decide | ktr_units)); intro h9 tk9 F9 N9; (try dsimp only); (try k_fold))
  k_with "call ref" => (k_here; (with_reducible show wpAny _ _ (call (Value.ref 181) [Value.ref _, Value.ref _, Value.ref _]) _ _ _); k_dflt (refine' callT_use (field_spec ?z1 ?z2 ?z3) ?k1 ?k2 ?k3 ?k4 ?k5 ?kK ?kP ?kd ?ku ?_; (case k1 => k_asm); (case k2 => k_asm); (case k3 => k_asm); (case k4 => k_asm); (case k5 => k_asm); (case kK => first | exact rfl | assumption); (case kP => (refine ⟨?_, ?_, ?_⟩ <;> (first | with_reducible assumption | with_reducible exact RatIn.nought | exact RatIn.of_mem (by k_mem) | exact RatIn.of_int (by k_mem) | exact RatIn.of_half (by k_mem) | exact RatIn.of_mhalf (by k_mem) | exact RatIn.mono (by with_reducible assumption) (fun _ h8 => by (repeat' first | exact h8 | apply List.Mem.tail))))); (case z1 => with_reducible assumption);(case z2 => with_reducible assumption);(case z3 => with_reducible assumption); (case kd => first | decide | ktr_room); (case ku => first | decide | ktr_units)); intro h9 tk9 F9 N9; (try dsimp only); (try k_fold))
  k_with "call ref" => (k_here; (with_reducible show wpAny _ _ (call (Value.ref 188) [Value.ref _, Value.ref _, Value.ref _]) _ _ _); k_dflt (refine' callP_use (ordered_spec ?z1 ?z2 ?z3) ?k1 ?k2 ?k3 ?k4 ?k5 ?kK ?kP ?kd ?ku ?_; (case k1 => k_asm); (case k2 => k_asm); (case k3 => k_asm); (case k4 => k_asm); (case k5 => k_asm); (case kK => first | exact rfl | assumption); (case kP => (refine ⟨?_, ?_, ?_⟩ <;> (first | with_reducible assumption | with_reducible exact RatIn.nought | exact RatIn.of_mem (by k_mem) | exact RatIn.of_int (by k_mem) | exact RatIn.of_half (by k_mem) | exact RatIn.of_mhalf (by k_mem) | exact RatIn.mono (by with_reducible assumption) (fun _ h8 => by (repeat' first | exact h8 | apply List.Mem.tail))))); (case z1 => with_reducible assumption);(case z2 => with_reducible assumption);(case z3 => with_reducible assumption); (case kd => first | decide | ktr_room); (case ku => first | decide | ktr_units)); intro h9 tk9 F9 N9; (try dsimp only); (try k_fold))
  k_with "call ref" => (k_here; (with_reducible show wpAny _ _ (call (Value.ref 195) [Value.ref _, Value.ref _, Value.int _ _, Value.int _ _]) _ _ _); k_dflt (refine' callT_use (lpow_spec ?z1 ?z2 ?z3 ?z4 ?z5 ?z6) ?k1 ?k2 ?k3 ?k4 ?k5 ?kK ?kP ?kd ?ku ?_; (case k1 => k_asm); (case k2 => k_asm); (case k3 => k_asm); (case k4 => k_asm); (case k5 => k_asm); (case kK => first | exact rfl | assumption); (case kP => (refine ⟨?_, ?_⟩ <;> (first | with_reducible assumption | with_reducible exact RatIn.nought | exact RatIn.of_mem (by k_mem) | exact RatIn.of_int (by k_mem) | exact RatIn.of_half (by k_mem) | exact RatIn.of_mhalf (by k_mem) | exact RatIn.mono (by with_reducible assumption) (fun _ h8 => by (repeat' first | exact h8 | apply List.Mem.tail))))); (case z1 => with_reducible assumption);(case z2 => with_reducible assumption);(case z3 => with_reducible exact lpw1 (by assumption)); (case z4 => with_reducible exact lpw2 (by assumption)); (case z5 => with_reducible exact lpw1 (by assumption)); (case z6 => with_reducible exact lpw2 (by assumption)); (case kd => first | decide | ktr_room); (case ku => first | decide | ktr_units)); intro h9 tk9 F9 N9; (try dsimp only); (try k_fold))
  k_with "call ref" => (k_here; (with_reducible show wpAny _ _ (call (Value.ref 202) [Value.ref _, Value.int _ _]) _ _ _); k_dflt (refine' callP_use (lwhole_spec ?z1 ?z2) ?k1 ?k2 ?k3 ?k4 ?k5 ?kK ?kP ?kd ?ku ?_; (case k1 => k_asm); (case k2 => k_asm); (case k3 => k_asm); (case k4 => k_asm); (case k5 => k_asm); (case kK => first | exact rfl | assumption); (case kP => (first | with_reducible assumption | with_reducible exact RatIn.nought | exact RatIn.of_mem (by k_mem) | exact RatIn.of_int (by k_mem) | exact RatIn.of_half (by k_mem) | exact RatIn.of_mhalf (by k_mem) | exact RatIn.mono (by with_reducible assumption) (fun _ h8 => by (repeat' first | exact h8 | apply List.Mem.tail)))); (case z1 => with_reducible assumption);(case z2 => with_reducible exact str1 (by assumption) (by assumption)); (case kd => first | decide | ktr_room); (case ku => first | decide | ktr_units)); intro h9 tk9 F9 N9; (try dsimp only); (try k_fold))
  k_with "FinE" => ((unfold LCg.FinE); intro D' h' tk' F' N' o1'; (repeat (with_reducible rename (@Ne Nat _ _ ∧ @Ne Nat _ _ ∧ @Ne Nat _ _) ∧ _ => kill; clear kill)); (repeat (with_reducible rename @Ne Nat _ _ ∧ @Ne Nat _ _ ∧ @Ne Nat _ _ => kill; clear kill)); refine keepM (OffK.of o1') ?_; clear o1'; intro o1'; (try simp only [List.nil_append, List.cons_append] at N' o1'); (try dsimp only))
  k_with "FinA" => ((unfold LCg.FinA); intro D' h' tk' F' N' o1'; (repeat (with_reducible rename (@Ne Nat _ _ ∧ @Ne Nat _ _ ∧ @Ne Nat _ _) ∧ _ => kill; clear kill)); (repeat (with_reducible rename @Ne Nat _ _ ∧ @Ne Nat _ _ ∧ @Ne Nat _ _ => kill; clear kill)); refine keepM (OffK.of o1') ?_; clear o1'; intro o1'; (try simp only [List.nil_append, List.cons_append] at N' o1'); (try dsimp only))
  k_with "CompEnd" => (k_dflt (refine' comp_end1 ?F ?N ?l1 ?l2 ?l3 ?off ?S ?_; (case F => k_asm); (case N => k_asm); (case l1 => first | with_reducible exact ngt0 (by assumption) | with_reducible exact ngt1 (by assumption) | with_reducible exact ngt2 (by assumption) | with_reducible exact ngt3 (by assumption) | with_reducible exact ngt4 (by assumption) | with_reducible exact ngt5 (by assumption) | with_reducible exact ngt6 (by assumption) | with_reducible exact ngt7 (by assumption) | with_reducible exact ngt8 (by assumption) | with_reducible exact ngt9 (by assumption) | with_reducible exact ngt10 (by assumption) | with_reducible exact ngt11 (by assumption) | with_reducible exact ngt12 (by assumption) | with_reducible exact ngt13 (by assumption) | with_reducible exact ngt14 (by assumption) | with_reducible exact ngz0 (by assumption) | with_reducible exact ngz1 (by assumption) | with_reducible exact ngz2 (by assumption) | with_reducible exact ngz3 (by assumption) | with_reducible exact ngz4 (by assumption) | with_reducible exact ngz5 (by assumption) | with_reducible exact ngz6 (by assumption) | with_reducible exact ngz7 (by assumption) | with_reducible exact ngz8 (by assumption) | with_reducible exact ngz9 (by assumption) | with_reducible exact ngz10 (by assumption) | with_reducible exact ngz11 (by assumption) | with_reducible exact ngz12 (by assumption) | with_reducible exact ngz13 (by assumption) | with_reducible exact ngz14 (by assumption) | with_reducible exact Ne.symm (ngt0 (by assumption)) | with_reducible exact Ne.symm (ngt1 (by assumption)) | with_reducible exact Ne.symm (ngt2 (by assumption)) | with_reducible exact Ne.symm (ngt3 (by assumption)) | with_reducible exact Ne.symm (ngt4 (by assumption)) | with_reducible exact Ne.symm (ngt5 (by assumption)) | with_reducible exact Ne.symm (ngt6 (by assumption)) | with_reducible exact Ne.symm (ngt7 (by assumption)) | with_reducible exact Ne.symm (ngt8 (by assumption)) | with_reducible exact Ne.symm (ngt9 (by assumption)) | with_reducible exact Ne.symm (ngt10 (by assumption)) | with_reducible exact Ne.symm (ngt11 (by assumption)) | with_reducible exact Ne.symm (ngt12 (by assumption)) | with_reducible exact Ne.symm (ngt13 (by assumption)) | with_reducible exact Ne.symm (ngt14 (by assumption)) | with_reducible exact Ne.symm (ngz0 (by assumption)) | with_reducible exact Ne.symm (ngz1 (by assumption)) | with_reducible exact Ne.symm (ngz2 (by assumption)) | with_reducible exact Ne.symm (ngz3 (by assumption)) | with_reducible exact Ne.symm (ngz4 (by assumption)) | with_reducible exact Ne.symm (ngz5 (by assumption)) | with_reducible exact Ne.symm (ngz6 (by assumption)) | with_reducible exact Ne.symm (ngz7 (by assumption)) | with_reducible exact Ne.symm (ngz8 (by assumption)) | with_reducible exact Ne.symm (ngz9 (by assumption)) | with_reducible exact Ne.symm (ngz10 (by assumption)) | with_reducible exact Ne.symm (ngz11 (by assumption)) | with_reducible exact Ne.symm (ngz12 (by assumption)) | with_reducible exact Ne.symm (ngz13 (by assumption)) | with_reducible exact Ne.symm (ngz14 (by assumption)) | with_reducible exact nofI0 (by assumption) | with_reducible exact nofC0 (by assumption) | with_reducible exact nofD0 (by assumption) | with_reducible exact nofI1 (by assumption) | with_reducible exact nofC1 (by assumption) | with_reducible exact nofD1 (by assumption) | with_reducible exact nofI2 (by assumption) | with_reducible exact nofC2 (by assumption) | with_reducible exact nofD2 (by assumption) | with_reducible exact nofI3 (by assumption) | with_reducible exact nofC3 (by assumption) | with_reducible exact nofD3 (by assumption) | with_reducible exact nofI4 (by assumption) | with_reducible exact nofC4 (by assumption) | with_reducible exact nofD4 (by assumption) | with_reducible exact nofI5 (by assumption) | with_reducible exact nofC5 (by assumption) | with_reducible exact nofD5 (by assumption) | with_reducible exact nofI6 (by assumption) | with_reducible exact nofC6 (by assumption) | with_reducible exact nofD6 (by assumption) | k_ne); (case l2 => first | with_reducible exact ngt0 (by assumption) | with_reducible exact ngt1 (by assumption) | with_reducible exact ngt2 (by assumption) | with_reducible exact ngt3 (by assumption) | with_reducible exact ngt4 (by assumption) | with_reducible exact ngt5 (by assumption) | with_reducible exact ngt6 (by assumption) | with_reducible exact ngt7 (by assumption) | with_reducible exact ngt8 (by assumption) | with_reducible exact ngt9 (by assumption) | with_reducible exact ngt10 (by assumption) | with_reducible exact ngt11 (by assumption) | with_reducible exact ngt12 (by assumption) | with_reducible exact ngt13 (by assumption) | with_reducible exact ngt14 (by assumption) | with_reducible exact ngz0 (by assumption) | with_reducible exact ngz1 (by assumption) | with_reducible exact ngz2 (by assumption) | with_reducible exact ngz3 (by assumption) | with_reducible exact ngz4 (by assumption) | with_reducible exact ngz5 (by assumption) | with_reducible exact ngz6 (by assumption) | with_reducible exact ngz7 (by assumption) | with_reducible exact ngz8 (by assumption) | with_reducible exact ngz9 (by assumption) | with_reducible exact ngz10 (by assumption) | with_reducible exact ngz11 (by assumption) | with_reducible exact ngz12 (by assumption) | with_reducible exact ngz13 (by assumption) | with_reducible exact ngz14 (by assumption) | with_reducible exact Ne.symm (ngt0 (by assumption)) | with_reducible exact Ne.symm (ngt1 (by assumption)) | with_reducible exact Ne.symm (ngt2 (by assumption)) | with_reducible exact Ne.symm (ngt3 (by assumption)) | with_reducible exact Ne.symm (ngt4 (by assumption)) | with_reducible exact Ne.symm (ngt5 (by assumption)) | with_reducible exact Ne.symm (ngt6 (by assumption)) | with_reducible exact Ne.symm (ngt7 (by assumption)) | with_reducible exact Ne.symm (ngt8 (by assumption)) | with_reducible exact Ne.symm (ngt9 (by assumption)) | with_reducible exact Ne.symm (ngt10 (by assumption)) | with_reducible exact Ne.symm (ngt11 (by assumption)) | with_reducible exact Ne.symm (ngt12 (by assumption)) | with_reducible exact Ne.symm (ngt13 (by assumption)) | with_reducible exact Ne.symm (ngt14 (by assumption)) | with_reducible exact Ne.symm (ngz0 (by assumption)) | with_reducible exact Ne.symm (ngz1 (by assumption)) | with_reducible exact Ne.symm (ngz2 (by assumption)) | with_reducible exact Ne.symm (ngz3 (by assumption)) | with_reducible exact Ne.symm (ngz4 (by assumption)) | with_reducible exact Ne.symm (ngz5 (by assumption)) | with_reducible exact Ne.symm (ngz6 (by assumption)) | with_reducible exact Ne.symm (ngz7 (by assumption)) | with_reducible exact Ne.symm (ngz8 (by assumption)) | with_reducible exact Ne.symm (ngz9 (by assumption)) | with_reducible exact Ne.symm (ngz10 (by assumption)) | with_reducible exact Ne.symm (ngz11 (by assumption)) | with_reducible exact Ne.symm (ngz12 (by assumption)) | with_reducible exact Ne.symm (ngz13 (by assumption)) | with_reducible exact Ne.symm (ngz14 (by assumption)) | with_reducible exact nofI0 (by assumption) | with_reducible exact nofC0 (by assumption) | with_reducible exact nofD0 (by assumption) | with_reducible exact nofI1 (by assumption) | with_reducible exact nofC1 (by assumption) | with_reducible exact nofD1 (by assumption) | with_reducible exact nofI2 (by assumption) | with_reducible exact nofC2 (by assumption) | with_reducible exact nofD2 (by assumption) | with_reducible exact nofI3 (by assumption) | with_reducible exact nofC3 (by assumption) | with_reducible exact nofD3 (by assumption) | with_reducible exact nofI4 (by assumption) | with_reducible exact nofC4 (by assumption) | with_reducible exact nofD4 (by assumption) | with_reducible exact nofI5 (by assumption) | with_reducible exact nofC5 (by assumption) | with_reducible exact nofD5 (by assumption) | with_reducible exact nofI6 (by assumption) | with_reducible exact nofC6 (by assumption) | with_reducible exact nofD6 (by assumption) | k_ne); (case l3 => first | with_reducible exact ngt0 (by assumption) | with_reducible exact ngt1 (by assumption) | with_reducible exact ngt2 (by assumption) | with_reducible exact ngt3 (by assumption) | with_reducible exact ngt4 (by assumption) | with_reducible exact ngt5 (by assumption) | with_reducible exact ngt6 (by assumption) | with_reducible exact ngt7 (by assumption) | with_reducible exact ngt8 (by assumption) | with_reducible exact ngt9 (by assumption) | with_reducible exact ngt10 (by assumption) | with_reducible exact ngt11 (by assumption) | with_reducible exact ngt12 (by assumption) | with_reducible exact ngt13 (by assumption) | with_reducible exact ngt14 (by assumption) | with_reducible exact ngz0 (by assumption) | with_reducible exact ngz1 (by assumption) | with_reducible exact ngz2 (by assumption) | with_reducible exact ngz3 (by assumption) | with_reducible exact ngz4 (by assumption) | with_reducible exact ngz5 (by assumption) | with_reducible exact ngz6 (by assumption) | with_reducible exact ngz7 (by assumption) | with_reducible exact ngz8 (by assumption) | with_reducible exact ngz9 (by assumption) | with_reducible exact ngz10 (by assumption) | with_reducible exact ngz11 (by assumption) | with_reducible exact ngz12 (by assumption) | with_reducible exact ngz13 (by assumption) | with_reducible exact ngz14 (by assumption) | with_reducible exact Ne.symm (ngt0 (by assumption)) | with_reducible exact Ne.symm (ngt1 (by assumption)) | with_reducible exact Ne.symm (ngt2 (by assumption)) | with_reducible exact Ne.symm (ngt3 (by assumption)) | with_reducible exact Ne.symm (ngt4 (by assumption)) | with_reducible exact Ne.symm (ngt5 (by assumption)) | with_reducible exact Ne.symm (ngt6 (by assumption)) | with_reducible exact Ne.symm (ngt7 (by assumption)) | with_reducible exact Ne.symm (ngt8 (by assumption)) | with_reducible exact Ne.symm (ngt9 (by assumption)) | with_reducible exact Ne.symm (ngt10 (by assumption)) | with_reducible exact Ne.symm (ngt11 (by assumption)) | with_reducible exact Ne.symm (ngt12 (by assumption)) | with_reducible exact Ne.symm (ngt13 (by assumption)) | with_reducible exact Ne.symm (ngt14 (by assumption)) | with_reducible exact Ne.symm (ngz0 (by assumption)) | with_reducible exact Ne.symm (ngz1 (by assumption)) | with_reducible exact Ne.symm (ngz2 (by assumption)) | with_reducible exact Ne.symm (ngz3 (by assumption)) | with_reducible exact Ne.symm (ngz4 (by assumption)) | with_reducible exact Ne.symm (ngz5 (by assumption)) | with_reducible exact Ne.symm (ngz6 (by assumption)) | with_reducible exact Ne.symm (ngz7 (by assumption)) | with_reducible exact Ne.symm (ngz8 (by assumption)) | with_reducible exact Ne.symm (ngz9 (by assumption)) | with_reducible exact Ne.symm (ngz10 (by assumption)) | with_reducible exact Ne.symm (ngz11 (by assumption)) | with_reducible exact Ne.symm (ngz12 (by assumption)) | with_reducible exact Ne.symm (ngz13 (by assumption)) | with_reducible exact Ne.symm (ngz14 (by assumption)) | with_reducible exact nofI0 (by assumption) | with_reducible exact nofC0 (by assumption) | with_reducible exact nofD0 (by assumption) | with_reducible exact nofI1 (by assumption) | with_reducible exact nofC1 (by assumption) | with_reducible exact nofD1 (by assumption) | with_reducible exact nofI2 (by assumption) | with_reducible exact nofC2 (by assumption) | with_reducible exact nofD2 (by assumption) | with_reducible exact nofI3 (by assumption) | with_reducible exact nofC3 (by assumption) | with_reducible exact nofD3 (by assumption) | with_reducible exact nofI4 (by assumption) | with_reducible exact nofC4 (by assumption) | with_reducible exact nofD4 (by assumption) | with_reducible exact nofI5 (by assumption) | with_reducible exact nofC5 (by assumption) | with_reducible exact nofD5 (by assumption) | with_reducible exact nofI6 (by assumption) | with_reducible exact nofC6 (by assumption) | with_reducible exact nofD6 (by assumption) | k_ne); (case off => first | assumption | (simp only [LCg.Off3, and_true]; assumption)); (case S => first | exact trivial | exact Or.inl (Or.inl (by assumption)) | exact Or.inl (by assumption) | exact Or.inr ⟨_, by k_mem, rfl, _, rfl⟩)))
  exact trivial
set_option maxRecDepth 100000 in
set_option maxHeartbeats 3000000 in
theorem law_holds : PySem.Challenge.rw_sa0001_01.Holds := hd (by
  k_go0
  all_goals (try k_fold)
  k_steps
  all_goals
    refine' LawEnd.intro ?F ?N ?hk ?h1 ?h2 ?h3 ?h4
    case F => k_asm
    case N => k_asm
    case h1 => k_mem
    case h2 => k_mem
    case h3 => k_mem
    case hk => with_reducible assumption
    case h4 => exact fun p hp => (by (repeat' first | exact hp | apply List.Mem.tail)))
theorem rows_Z2_2 : True := by
  k_with_none
  exact trivial
end
end Mine
end
theorem PySem.Challenge.cw_sa0001_01_holds : PySem.Challenge.rw_sa0001_01.Holds := by
  exact Mine.law_holds
