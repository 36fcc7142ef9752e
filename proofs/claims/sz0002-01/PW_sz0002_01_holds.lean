import PyProof.Rows.All
import Wide.All
import OpenK.AllK
import Wide.FinOn
import Lean
import PySem.Challenge.RW_sz0002_01
section
open PySem PySem.W PyProof.Rows
set_option Elab.async false
set_option maxRecDepth 100000
set_option maxHeartbeats 8000000
namespace Mine
open_top hd for PySem.Challenge.rw_sz0002_01
end Mine
end
section
open PySem PySem.W PyProof.Rows PySem.Calls PySem.Spec
set_option Elab.async false
set_option maxRecDepth 100000
set_option maxHeartbeats 8000000
namespace Mine
noncomputable abbrev PR : Program := PySem.Challenge.rw_sz0002_01.row.prog
noncomputable abbrev LO : List Str := looseW hd.view_39 [Str.ofString "GREATEST"]
abbrev tup2 (n : Int) (t1 : Tok) (d : Int) (t2 : Tok) (c : Nat) : Obj := { cls := .type "tuple", data := .seq #[.int n t1, .int d t2] c }

def Does (w : World) (mean : ExcName → Option Value) (mg mb : Str → Option Value) (k : Nat) (f : Addr) (news : List (Addr × Obj)) (vs : List Value) (Post : List (Addr × Obj) → Value → Prop) : Prop :=
  ∀ (dp un : Nat) (gd : Option (List Code)) (cn : Str) (cs : Scope) (a : Addr) (ccd : Value) (cl : List (Str × Addr)) (outer : List Env) (A₀ : Around) (base h₀ : Heap) (L : Addr) (m : Str → Option Value) (s : Shared)
    (Q E : Value → Shared → Prop),
    Below A₀ base outer h₀ → Fr h₀ L s.heap m → (hd.heap_39 w.params).In h₀ → News h₀ L s.heap news → Top hd.view_39 LO mean mg mb h₀ → cs.kind = .function → dp + k < recursionLimit → un + 8 * k < cLine →
    (∀ r news' h' tk', Fr h₀ L h' m → News h₀ L h' news' → Post news' r → Q r { s with heap := h', toks := tk' }) →
    wpAny (model PR w) (ktrTop dp un gd cn cs L a ccd cl outer) (call (.ref f) vs) Q E s
def RatPost (n d : Int) (news news' : List (Addr × Obj)) (r : Value) : Prop := ∃ D u1 u2 c', r = .ref D ∧ news' = (D, tup2 n u1 d u2 c') :: news ∧ AllLt D news
theorem ratPost_end {n d n' d' : Int} {u1 u2 c : Nat} {D : Addr} {news : List (Addr × Obj)} (e1 : n' = n) (e2 : d' = d) (h : AllLt D news) : RatPost n d news ((D, tup2 n' u1 d' u2 c) :: news) (.ref D) := by
  subst e1; subst e2; exact ⟨_, _, _, _, rfl, rfl, h⟩
def IntPost (v : Int) (news news' : List (Addr × Obj)) (r : Value) : Prop := ∃ u, r = .int v u ∧ news' = news
theorem intPost_end {v v' : Int} {u : Nat} {news : List (Addr × Obj)} (e : v' = v) : IntPost v news news (.int v' u) := by
  subst e; exact ⟨_, rfl, rfl⟩
def Halt (P : Prop) : Prop := P
theorem Halt.out {P : Prop} (h : Halt P) : P := h
theorem fill : hd.heap_39 = hd.heap_39 ∧ PySem.Challenge.rw_sz0002_01 = PySem.Challenge.rw_sz0002_01 := by k_fill; exact ⟨rfl, rfl⟩
end Mine
end
section
namespace Mine
def Fit (x : Int) : Prop := x.natAbs < 2 ^ 2600
def Sz (e : Nat) (q : Rat) : Prop := q.num.natAbs ≤ 2 ^ e ∧ q.den ≤ 2 ^ e
theorem pow_le {a b : Nat} (h : a ≤ b) : (2:Nat) ^ a ≤ 2 ^ b := Nat.pow_le_pow_right (by decide) h
theorem Sz.mono {e f : Nat} {q : Rat} (h : Sz e q) (hf : e ≤ f) : Sz f q := ⟨Nat.le_trans h.1 (pow_le hf), Nat.le_trans h.2 (pow_le hf)⟩
theorem le_fit {x : Int} {e : Nat} (h : x.natAbs ≤ 2 ^ e) (he : e ≤ 2500) : Fit x := by
  have h1 : (2:Nat) ^ e ≤ 2 ^ 2500 := pow_le he
  have h2 : (2:Nat) ^ 2500 < 2 ^ 2600 := Nat.pow_lt_pow_right (by decide) (by decide)
  unfold Fit
  exact Nat.lt_of_le_of_lt (Nat.le_trans h h1) h2
theorem Sz.fitN {e : Nat} {q : Rat} (h : Sz e q) (he : e ≤ 2500) : Fit q.num := le_fit h.1 he
theorem Sz.fitD {e : Nat} {q : Rat} (h : Sz e q) (he : e ≤ 2500) : Fit (q.den : Int) := le_fit (by rw [Int.natAbs_natCast]; exact h.2) he
theorem mul_le2 {a b e f : Nat} (h : a ≤ 2 ^ e) (g : b ≤ 2 ^ f) : a * b ≤ 2 ^ (e + f) := by
  rw [Nat.pow_add]; exact Nat.mul_le_mul h g
theorem add_le2 {a b e : Nat} (h : a ≤ 2 ^ e) (g : b ≤ 2 ^ e) : a + b ≤ 2 ^ (e + 1) := by
  rw [Nat.pow_succ]; omega
theorem Sz.divInt {t b : Int} {e : Nat} (hb : b ≠ 0) (h1 : t.natAbs ≤ 2 ^ e) (h2 : b.natAbs ≤ 2 ^ e) : Sz e (Rat.divInt t b) := by
  constructor
  · rw [Rat.num_divInt]
    refine Nat.le_trans (Int.natAbs_ediv_le_natAbs _ _) ?_
    rw [Int.natAbs_mul, Int.natAbs_sign_of_ne_zero hb, Nat.one_mul]
    exact h1
  · rw [Rat.den_divInt, if_neg hb]
    exact Nat.le_trans (Nat.div_le_self _ _) h2
theorem den_ne {q : Rat} : (q.den : Int) ≠ 0 := by have := q.den_nz; omega
-- the four operations as the program says them
theorem sum_eq (p q : Rat) : Rat.divInt (p.num * q.den + q.num * p.den) (p.den * q.den) = p + q := by
  rw [Rat.add_def', ← Rat.divInt_ofNat, Int.natCast_mul]
theorem diff_eq (p q : Rat) : Rat.divInt (p.num * q.den - q.num * p.den) (p.den * q.den) = p - q := by
  rw [Rat.sub_def', ← Rat.divInt_ofNat, Int.natCast_mul]
theorem prod_eq (p q : Rat) : Rat.divInt (p.num * q.num) (p.den * q.den) = p * q := by
  rw [Rat.mul_def', ← Rat.divInt_ofNat, Int.natCast_mul]
theorem quot_eq (p q : Rat) : Rat.divInt (p.num * q.den) (p.den * q.num) = p / q := by
  have h1 : Rat.divInt p.num p.den = p := Rat.num_divInt_den p
  rw [Rat.div_def, Rat.inv_def, ← Rat.divInt_mul_divInt, h1]
theorem num_ne {q : Rat} (h : q ≠ 0) : q.num ≠ 0 := fun e => h (Rat.num_eq_zero.mp e)
section
variable {e f : Nat} {p q : Rat}
theorem sum_t (hp : Sz e p) (hq : Sz f q) : (p.num * q.den + q.num * p.den).natAbs ≤ 2 ^ (e + f + 1) := by
  refine Nat.le_trans (Int.natAbs_add_le _ _) ?_
  rw [Int.natAbs_mul, Int.natAbs_mul, Int.natAbs_natCast, Int.natAbs_natCast]
  refine add_le2 (mul_le2 hp.1 hq.2) ?_
  rw [Nat.mul_comm]; exact mul_le2 hp.2 hq.1
theorem diff_t (hp : Sz e p) (hq : Sz f q) : (p.num * q.den - q.num * p.den).natAbs ≤ 2 ^ (e + f + 1) := by
  refine Nat.le_trans (Int.natAbs_sub_le _ _) ?_
  rw [Int.natAbs_mul, Int.natAbs_mul, Int.natAbs_natCast, Int.natAbs_natCast]
  refine add_le2 (mul_le2 hp.1 hq.2) ?_
  rw [Nat.mul_comm]; exact mul_le2 hp.2 hq.1
theorem den_t (hp : Sz e p) (hq : Sz f q) : ((p.den : Int) * q.den).natAbs ≤ 2 ^ (e + f) := by
  rw [Int.natAbs_mul, Int.natAbs_natCast, Int.natAbs_natCast]; exact mul_le2 hp.2 hq.2
theorem prod_t (hp : Sz e p) (hq : Sz f q) : (p.num * q.num).natAbs ≤ 2 ^ (e + f) := by
  rw [Int.natAbs_mul]; exact mul_le2 hp.1 hq.1
theorem quot_t (hp : Sz e p) (hq : Sz f q) : (p.num * q.den).natAbs ≤ 2 ^ (e + f) := by
  rw [Int.natAbs_mul, Int.natAbs_natCast]; exact mul_le2 hp.1 hq.2
theorem quot_b (hp : Sz e p) (hq : Sz f q) : ((p.den : Int) * q.num).natAbs ≤ 2 ^ (e + f) := by
  rw [Int.natAbs_mul, Int.natAbs_natCast]; exact mul_le2 hp.2 hq.1
theorem dd_ne : (p.den : Int) * q.den ≠ 0 := Int.mul_ne_zero den_ne den_ne
theorem dn_ne (h : q ≠ 0) : (p.den : Int) * q.num ≠ 0 := Int.mul_ne_zero den_ne (num_ne h)
theorem Sz.add (hp : Sz e p) (hq : Sz f q) : Sz (e + f + 1) (p + q) := by
  rw [← sum_eq]; exact Sz.divInt dd_ne (sum_t hp hq) (Nat.le_trans (den_t hp hq) (pow_le (by omega)))
theorem Sz.sub (hp : Sz e p) (hq : Sz f q) : Sz (e + f + 1) (p - q) := by
  rw [← diff_eq]; exact Sz.divInt dd_ne (diff_t hp hq) (Nat.le_trans (den_t hp hq) (pow_le (by omega)))
theorem Sz.mul (hp : Sz e p) (hq : Sz f q) : Sz (e + f) (p * q) := by
  rw [← prod_eq]; exact Sz.divInt dd_ne (prod_t hp hq) (den_t hp hq)
theorem Sz.div (hp : Sz e p) (hq : Sz f q) (h : q ≠ 0) : Sz (e + f) (p / q) := by
  rw [← quot_eq]; exact Sz.divInt (dn_ne h) (quot_t hp hq) (quot_b hp hq)
theorem Sz.neg (hp : Sz e p) : Sz e (-p) := by
  refine ⟨?_, ?_⟩
  · rw [Rat.neg_num, Int.natAbs_neg]; exact hp.1
  · rw [Rat.neg_den]; exact hp.2
end
theorem num0 : (0:Int) = (0:Rat).num := rfl
theorem num1 : (1:Int) = (1:Rat).num := rfl
theorem den0 : (1:Int) = ((0:Rat).den : Int) := rfl
theorem den1 : (1:Int) = ((1:Rat).den : Int) := rfl
theorem Sz.zero : Sz 0 0 := ⟨by decide, by decide⟩
theorem Sz.one : Sz 0 1 := ⟨by decide, by decide⟩
end Mine
end
section
open PySem PySem.W PyProof.Rows PySem.Calls PySem.Spec
set_option Elab.async false
set_option maxRecDepth 100000
set_option maxHeartbeats 8000000
namespace Mine
theorem neg_does (w : World) (mean : ExcName → Option Value) (mg mb : Str → Option Value) (news : List (Addr × Obj)) (x : Addr) (n d : Int) (t1 t2 : Tok) (c : Nat) (hx : (x, tup2 n t1 d t2 c) ∈ news) :
    Does w mean mg mb 1 102 news [.ref x] (RatPost (-n) d news) := by
  intro dp un gd cn cs a ccd cl outer A₀ base h₀ L m s Q E B F X N T hk hd hu hret
  refine wpAny_call ?_
  k_dflt ktr_enter

  k_steps

  all_goals (exact hret _ _ _ _ (by k_asm) (by k_asm) (ratPost_end rfl rfl (by ktn_lt)))
end Mine
end
section
open PySem PySem.W PyProof.Rows PySem.Calls PySem.Spec
set_option Elab.async false
set_option maxRecDepth 100000
set_option maxHeartbeats 8000000
namespace Mine
def GInv (x y a b : Int) : Prop := 0 ≤ a ∧ 0 ≤ b ∧ (Int.gcd a b : Int) = Int.gcd x y
theorem ginv_start (x y : Int) : GInv x y (if x < 0 then -x else x) (if y < 0 then -y else y) := by
  refine ⟨by split <;> omega, by split <;> omega, ?_⟩
  split <;> split <;> simp [Int.gcd_eq_natAbs_gcd_natAbs]
theorem ginv_turn {x y a b : Int} (h : GInv x y a b) (hb : 0 < b) : GInv x y b (a.fmod b) := by
  obtain ⟨h1, h2, h3⟩ := h
  have e : a.fmod b = a % b := Int.fmod_eq_emod_of_nonneg _ (by omega)
  rw [e]
  refine ⟨h2, Int.emod_nonneg _ (by omega), ?_⟩
  rw [← h3, Int.gcd_eq_natAbs_gcd_natAbs, Int.gcd_eq_natAbs_gcd_natAbs, Int.natAbs_emod_of_nonneg h1, Nat.gcd_comm a.natAbs, Nat.gcd_rec b.natAbs a.natAbs, Nat.gcd_comm]
theorem ginv_end {x y a b : Int} (h : GInv x y a b) (hb : ¬ 0 < b) : a = Int.gcd x y := by
  obtain ⟨h1, h2, h3⟩ := h
  have : b = 0 := by omega
  subst this
  rw [← h3, Int.gcd_zero]
  omega
theorem gmeas {a b : Int} (h : 0 < b) : (a.fmod b).toNat < b.toNat := by
  have e : a.fmod b = a % b := Int.fmod_eq_emod_of_nonneg _ (by omega)
  have := Int.emod_lt_of_pos a h
  rw [e]; omega
theorem div_does (w : World) (mean : ExcName → Option Value) (mg mb : Str → Option Value) (news : List (Addr × Obj)) (x y : Int) (t1 t2 : Tok)  :
    Does w mean mg mb 1 60 news [.int x t1, .int y t2] (IntPost (Int.gcd x y) news) := by
  intro dp un gd cn cs a ccd cl outer A₀ base h₀ L m s Q E B F X N T hk hd hu hret
  refine wpAny_call ?_
  k_dflt ktr_enter
  (k_with "state" => first | exact ginv_start _ _ | exact ginv_turn (by assumption) (by assumption))
  (k_with "measure" => exact gmeas (by assumption))
  (k_with "exec While Compare cons nil" => k_while (fun (_ : List Int) a b => GInv x y a b) (fun (_ : List Int) (a b : Int) => b.toNat) "a" "b")
  k_steps
  all_goals (exact hret _ _ _ _ (by k_asm) (by k_asm) (intPost_end (ginv_end (by assumption) (by assumption))))
end Mine
end
section
open PySem PySem.W PyProof.Rows PySem.Calls PySem.Spec
set_option Elab.async false
set_option maxRecDepth 100000
set_option maxHeartbeats 8000000
namespace Mine
theorem Fit.bits {x : Int} (h : Fit x) : Builtin.Int.intBits x ≤ 2 ^ 20 := by
  unfold Fit at h
  unfold Builtin.Int.intBits
  have hl : x.natAbs.log2 < 2600 ∨ x.natAbs = 0 := by
    by_cases h0 : x.natAbs = 0
    · exact Or.inr h0
    · exact Or.inl ((Nat.log2_lt h0).mpr h)
  have : (2 : Nat) ^ 20 = 1048576 := by decide
  clear h
  split
  · omega
  · rcases hl with h1 | h1
    · omega
    · rw [h1, Nat.log2_zero]; omega
theorem Fit.mul {x y : Int} (h : Fit x) (g : Fit y) : IntMulOk x y := IntMulOk.of_bits h.bits g.bits
theorem Fit.log {x : Int} (h : Fit x) : x.natAbs.log2 < 9000 := by
  unfold Fit at h
  by_cases h0 : x.natAbs = 0
  · rw [h0]; decide +kernel
  · have := (Nat.log2_lt h0).mpr h
    omega
def Great (mg : Str → Option Value) : Prop := ∃ (GR : Int) (tG : Tok), mg (Str.ofString "GREATEST") = some (.int GR tG) ∧ ((2 ^ 2300 : Nat) : Int) ≤ GR
theorem le_great {x : Int} {e : Nat} {GR : Int} (h : x.natAbs ≤ 2 ^ e) (he : e ≤ 2300) (g : ((2 ^ 2300 : Nat) : Int) ≤ GR) : (x.natAbs : Int) ≤ GR := by
  have h1 : (2:Nat) ^ e ≤ 2 ^ 2300 := pow_le he
  have h2 : x.natAbs ≤ 2 ^ 2300 := Nat.le_trans h h1
  exact Int.le_trans (Int.ofNat_le.mpr h2) g
section
variable {w : World} {mean : ExcName → Option Value} {mg mb : Str → Option Value} {k : Nat} {f : Addr} {news : List (Addr × Obj)} {vs : List Value} {Post : List (Addr × Obj) → Value → Prop}
  {dp un : Nat} {gd : Option (List Code)} {cn : Str} {cs : Scope} {a : Addr} {ccd : Value} {cl : List (Str × Addr)} {outer : List Env} {A₀ : Around} {base h₀ : Heap} {L : Addr} {m : Str → Option Value} {s : Shared} {Q E : Value → Shared → Prop}
theorem use_int {v : Int} (D : Does w mean mg mb k f news vs (IntPost v news)) (B : Below A₀ base outer h₀) (F : Fr h₀ L s.heap m) (X : (hd.heap_39 w.params).In h₀) (N : News h₀ L s.heap news) (T : Top hd.view_39 LO mean mg mb h₀) (hk : cs.kind = .function)
    (hd : dp + k < recursionLimit) (hu : un + 8 * k < cLine) (ret : ∀ u h' tk', Fr h₀ L h' m → News h₀ L h' news → Q (.int v u) { s with heap := h', toks := tk' }) :
    wpAny (model PR w) (ktrTop dp un gd cn cs L a ccd cl outer) (call (.ref f) vs) Q E s :=
  D dp un gd cn cs a ccd cl outer A₀ base h₀ L m s Q E B F X N T hk hd hu (fun r news' h' tk' F' N' ⟨u, e1, e2⟩ => by subst e1; subst e2; exact ret u h' tk' F' N')
theorem use_rat {n d : Int} (D : Does w mean mg mb k f news vs (RatPost n d news)) (B : Below A₀ base outer h₀) (F : Fr h₀ L s.heap m) (X : (hd.heap_39 w.params).In h₀) (N : News h₀ L s.heap news) (T : Top hd.view_39 LO mean mg mb h₀) (hk : cs.kind = .function)
    (hd : dp + k < recursionLimit) (hu : un + 8 * k < cLine) (ret : ∀ D u1 u2 c h' tk', Fr h₀ L h' m → News h₀ L h' ((D, tup2 n u1 d u2 c) :: news) → AllLt D news → Q (.ref D) { s with heap := h', toks := tk' }) :
    wpAny (model PR w) (ktrTop dp un gd cn cs L a ccd cl outer) (call (.ref f) vs) Q E s :=
  D dp un gd cn cs a ccd cl outer A₀ base h₀ L m s Q E B F X N T hk hd hu (fun r news' h' tk' F' N' ⟨D, u1, u2, c, e1, e2, e3⟩ => by subst e1; subst e2; exact ret D u1 u2 c h' tk' F' N' e3)
end
end Mine
end
section
open PySem PySem.W PyProof.Rows PySem.Calls PySem.Spec
set_option Elab.async false
set_option maxRecDepth 100000
set_option maxHeartbeats 8000000
namespace Mine
theorem Fit.neg {x : Int} (h : Fit x) : Fit (-x) := by unfold Fit at *; rwa [Int.natAbs_neg]
theorem Fit.gcd {x y : Int} (h : Fit y) (hy : y ≠ 0) : Fit (Int.gcd x y : Int) := by
  unfold Fit at *
  rw [Int.natAbs_natCast]
  exact Nat.lt_of_le_of_lt (Nat.le_of_dvd (by omega) (Int.gcd_dvd_natAbs_right x y)) h
section
variable {w : World} {mean : ExcName → Option Value} {mg mb : Str → Option Value} {k : Nat} {f : Addr} {news : List (Addr × Obj)} {vs : List Value} {Post : List (Addr × Obj) → Value → Prop}
  {dp un : Nat} {gd : Option (List Code)} {cn : Str} {cs : Scope} {a : Addr} {ccd : Value} {cl : List (Str × Addr)} {outer : List Env} {A₀ : Around} {base h₀ : Heap} {L : Addr} {m : Str → Option Value} {s : Shared} {Q E : Value → Shared → Prop}
theorem use_div {x y : Int} {t1 t2 : Tok} (B : Below A₀ base outer h₀) (F : Fr h₀ L s.heap m) (X : (hd.heap_39 w.params).In h₀) (N : News h₀ L s.heap news) (T : Top hd.view_39 LO mean mg mb h₀) (hk : cs.kind = .function)
    (hd : dp + 1 < recursionLimit) (hu : un + 8 * 1 < cLine) (hy : y ≠ 0) (hf : Fit y) (ret : ∀ u h' tk', Fr h₀ L h' m → News h₀ L h' news → (Int.gcd x y : Int) ≠ 0 → Fit (Int.gcd x y : Int) → Q (.int (Int.gcd x y : Int) u) { s with heap := h', toks := tk' }) :
    wpAny (model PR w) (ktrTop dp un gd cn cs L a ccd cl outer) (call (.ref 60) [.int x t1, .int y t2]) Q E s :=
  use_int (div_does w mean mg mb news x y t1 t2) B F X N T hk hd hu (fun u h' tk' F' N' => ret u h' tk' F' N' (by have := Int.gcd_eq_zero_iff (a := x) (b := y); omega) (Fit.gcd hf hy))
theorem fdiv_rule {A : Around} {x y : Int} {t u : Tok} (hb : y ≠ 0) (hf : Fit y) (h : Q (.int (x.fdiv y) s.toks) { s with toks := s.toks + 1 }) : wpAny (model PR w) A (binaryOp .FloorDiv (.int x t) (.int y u)) Q E s :=
  floordiv_int hb h (Or.inl (PyProof.noPylong_of_log2 hf.log))
end
local macro_rules | `(tactic| walk_at "binaryOp FloorDiv int int") => `(tactic| ((with_reducible show wpAny _ _ (binaryOp _ (Value.int _ _) (Value.int _ _)) _ _ _); with_reducible refine fdiv_rule (by assumption) (by assumption) ?_; (try dsimp only)))
local macro_rules | `(tactic| walk_at "call ref") => `(tactic| (k_here; (with_reducible show wpAny _ _ (call (Value.ref 60) _) _ _ _); k_dflt (refine' use_div ?k1 ?k2 ?k3 ?k4 ?k5 ?kK ?kd ?ku ?ky ?kf ?_; (case k1 => k_asm); (case k2 => k_asm); (case k3 => k_asm); (case k4 => k_asm); (case k5 => k_asm); (case kK => first | exact rfl | assumption); (case kd => ktr_room); (case ku => ktr_units); (case ky => first | assumption | omega); (case kf => first | assumption | exact Fit.neg (by assumption))); intro u' h' tk' F' N' hz' hf'; (try dsimp only); (try k_fold)))
local macro_rules | `(tactic| walk_at "eval Name") => `(tactic| ((with_reducible show wpAny _ _ (eval (PySem.Expr.Name (PySem.Str.ofString "GREATEST") _) _) _ _ _); (rename Fr _ _ _ _ => F'); k_dflt (refine tp_bound F' (by assumption) (by assumption) ?_); (try dsimp only)))
theorem bad1 {t g GR : Int} (h : GR < if t.fdiv g < 0 then -(t.fdiv g) else t.fdiv g) (hg : 0 ≤ g) (ht : (t.natAbs : Int) ≤ GR) : False := by
  rw [Int.fdiv_eq_ediv_of_nonneg _ hg] at h
  have h1 := Int.natAbs_ediv_le_natAbs t g
  split at h <;> omega
theorem bad2 {t g GR : Int} (h : GR < t.fdiv g) (hg : 0 ≤ g) (ht : (t.natAbs : Int) ≤ GR) : False := by
  rw [Int.fdiv_eq_ediv_of_nonneg _ hg] at h
  have h1 := Int.natAbs_ediv_le_natAbs t g
  omega
theorem natAbs_le_neg {t GR : Int} (h : (t.natAbs : Int) ≤ GR) : ((-t).natAbs : Int) ≤ GR := by rwa [Int.natAbs_neg]
theorem num_pos {t b : Int} (hb : b ≠ 0) (hn : ¬ b < 0) : t.fdiv (Int.gcd t b) = (Rat.divInt t b).num := by
  rw [Int.fdiv_eq_ediv_of_nonneg _ (by omega), Rat.num_divInt, Int.sign_eq_one_of_pos (by omega), Int.one_mul, Int.gcd_comm]
theorem den_pos {t b : Int} (hb : b ≠ 0) (hn : ¬ b < 0) : b.fdiv (Int.gcd t b) = (Rat.divInt t b).den := by
  rw [Int.fdiv_eq_ediv_of_nonneg _ (by omega), Rat.den_divInt, if_neg hb, Int.gcd_comm, Int.natCast_ediv]
  congr 1
  omega
theorem num_neg {t b : Int} (hn : b < 0) : (-t).fdiv (Int.gcd (-t) (-b)) = (Rat.divInt t b).num := by
  rw [num_pos (by omega) (by omega), Rat.neg_divInt_neg]
theorem den_neg {t b : Int} (hn : b < 0) : (-b).fdiv (Int.gcd (-t) (-b)) = (Rat.divInt t b).den := by
  rw [den_pos (by omega) (by omega), Rat.neg_divInt_neg]
theorem make_does (w : World) (mean : ExcName → Option Value) (mg mb : Str → Option Value) (GR : Int) (tG : Tok) (hG : mg (Str.ofString "GREATEST") = some (.int GR tG)) (news : List (Addr × Obj)) (t b : Int) (t1 t2 : Tok) (hb : b ≠ 0) (ht : (t.natAbs : Int) ≤ GR) (hb' : (b.natAbs : Int) ≤ GR) (hf : Fit b) :
    Does w mean mg mb 2 67 news [.int t t1, .int b t2] (RatPost (Rat.divInt t b).num (Rat.divInt t b).den news) := by
  intro dp un gd cn cs a ccd cl outer A₀ base h₀ L m s Q E B F X N T hk hd hu hret
  refine wpAny_call ?_
  k_dflt ktr_enter
  k_steps
  all_goals first
    | (exfalso; first | contradiction | exact bad1 (by assumption) (by omega) (by first | assumption | exact natAbs_le_neg (by assumption)) | exact bad2 (by assumption) (by omega) (by first | assumption | exact natAbs_le_neg (by assumption)))
    | (refine hret _ _ _ _ (by k_asm) (by k_asm) (ratPost_end ?_ ?_ (by ktn_lt)) <;> first | exact num_pos (by assumption) (by assumption) | exact den_pos (by assumption) (by assumption) | exact num_neg (by assumption) | exact den_neg (by assumption))
end Mine
end
section
open PySem PySem.W PyProof.Rows PySem.Calls PySem.Spec
set_option Elab.async false
set_option maxRecDepth 100000
set_option maxHeartbeats 8000000
namespace Mine
local macro_rules | `(tactic| mul_fits) => `(tactic| exact Fit.mul (by assumption) (by assumption))
local macro_rules | `(tactic| walk_at "call ref") => `(tactic| (k_here; (with_reducible show wpAny _ _ (call (Value.ref 67) _) _ _ _); k_dflt (refine' use_rat (make_does _ _ _ _ _ _ ?h1 _ _ _ _ _ ?h2 ?h3 ?h4 ?h5) ?k1 ?k2 ?k3 ?k4 ?k5 ?kK ?kd ?ku ?_; (case h1 => assumption); (case h2 => assumption); (case h3 => assumption); (case h4 => assumption); (case h5 => assumption); (case k1 => k_asm); (case k2 => k_asm); (case k3 => k_asm); (case k4 => k_asm); (case k5 => k_asm); (case kK => first | exact rfl | assumption); (case kd => ktr_room); (case ku => ktr_units)); intro D' u1' u2' c' h' tk' F' N' l1'; (try dsimp only); (try k_fold)))

theorem sum_does (w : World) (mean : ExcName → Option Value) (mg mb : Str → Option Value) (G : Great mg) (news : List (Addr × Obj)) (x y : Addr) (p q : Rat) (e f : Nat) (n1 n2 d1 d2 : Int) (t1 t2 t3 t4 : Tok) (c1 c2 : Nat)
    (i1 : n1 = p.num) (i2 : d1 = p.den) (i3 : n2 = q.num) (i4 : d2 = q.den) (hx : (x, tup2 n1 t1 d1 t2 c1) ∈ news) (hy : (y, tup2 n2 t3 d2 t4 c2) ∈ news) (hp : Sz e p) (hq : Sz f q) (hs : e + f + 1 ≤ 2300) :
    Does w mean mg mb 3 74 news [.ref x, .ref y] (RatPost (p + q).num (p + q).den news) := by
  subst i1 i2 i3 i4
  obtain ⟨GR, tG, hG, hGR⟩ := G
  have f1 : Fit p.num := hp.fitN (by omega)
  have f2 : Fit (p.den : Int) := hp.fitD (by omega)
  have f3 : Fit q.num := hq.fitN (by omega)
  have f4 : Fit (q.den : Int) := hq.fitD (by omega)
  have m1 := sum_t hp hq
  have m2 := den_t hp hq
  have k1 := le_great m1 (by omega) hGR
  have k2 := le_great m2 (by omega) hGR
  have k3 := le_fit m2 (by omega)
  have k4 := dd_ne (p := p) (q := q)
  rw [← sum_eq p q]
  intro dp un gd cn cs a ccd cl outer A₀ base h₀ L m s Q E B F X N T hk hd hu hret
  refine wpAny_call ?_
  k_dflt ktr_enter
  k_steps
  all_goals (exact hret _ _ _ _ (by k_asm) (by k_asm) (ratPost_end rfl rfl (by ktn_lt)))

theorem diff_does (w : World) (mean : ExcName → Option Value) (mg mb : Str → Option Value) (G : Great mg) (news : List (Addr × Obj)) (x y : Addr) (p q : Rat) (e f : Nat) (n1 n2 d1 d2 : Int) (t1 t2 t3 t4 : Tok) (c1 c2 : Nat)
    (i1 : n1 = p.num) (i2 : d1 = p.den) (i3 : n2 = q.num) (i4 : d2 = q.den) (hx : (x, tup2 n1 t1 d1 t2 c1) ∈ news) (hy : (y, tup2 n2 t3 d2 t4 c2) ∈ news) (hp : Sz e p) (hq : Sz f q) (hs : e + f + 1 ≤ 2300) :
    Does w mean mg mb 3 81 news [.ref x, .ref y] (RatPost (p - q).num (p - q).den news) := by
  subst i1 i2 i3 i4
  obtain ⟨GR, tG, hG, hGR⟩ := G
  have f1 : Fit p.num := hp.fitN (by omega)
  have f2 : Fit (p.den : Int) := hp.fitD (by omega)
  have f3 : Fit q.num := hq.fitN (by omega)
  have f4 : Fit (q.den : Int) := hq.fitD (by omega)
  have m1 := diff_t hp hq
  have m2 := den_t hp hq
  have k1 := le_great m1 (by omega) hGR
  have k2 := le_great m2 (by omega) hGR
  have k3 := le_fit m2 (by omega)
  have k4 := dd_ne (p := p) (q := q)
  rw [← diff_eq p q]
  intro dp un gd cn cs a ccd cl outer A₀ base h₀ L m s Q E B F X N T hk hd hu hret
  refine wpAny_call ?_
  k_dflt ktr_enter
  k_steps
  all_goals (exact hret _ _ _ _ (by k_asm) (by k_asm) (ratPost_end rfl rfl (by ktn_lt)))

theorem prod_does (w : World) (mean : ExcName → Option Value) (mg mb : Str → Option Value) (G : Great mg) (news : List (Addr × Obj)) (x y : Addr) (p q : Rat) (e f : Nat) (n1 n2 d1 d2 : Int) (t1 t2 t3 t4 : Tok) (c1 c2 : Nat)
    (i1 : n1 = p.num) (i2 : d1 = p.den) (i3 : n2 = q.num) (i4 : d2 = q.den) (hx : (x, tup2 n1 t1 d1 t2 c1) ∈ news) (hy : (y, tup2 n2 t3 d2 t4 c2) ∈ news) (hp : Sz e p) (hq : Sz f q) (hs : e + f + 1 ≤ 2300) :
    Does w mean mg mb 3 88 news [.ref x, .ref y] (RatPost (p * q).num (p * q).den news) := by
  subst i1 i2 i3 i4
  obtain ⟨GR, tG, hG, hGR⟩ := G
  have f1 : Fit p.num := hp.fitN (by omega)
  have f2 : Fit (p.den : Int) := hp.fitD (by omega)
  have f3 : Fit q.num := hq.fitN (by omega)
  have f4 : Fit (q.den : Int) := hq.fitD (by omega)
  have m1 := prod_t hp hq
  have m2 := den_t hp hq
  have k1 := le_great m1 (by omega) hGR
  have k2 := le_great m2 (by omega) hGR
  have k3 := le_fit m2 (by omega)
  have k4 := dd_ne (p := p) (q := q)
  rw [← prod_eq p q]
  intro dp un gd cn cs a ccd cl outer A₀ base h₀ L m s Q E B F X N T hk hd hu hret
  refine wpAny_call ?_
  k_dflt ktr_enter
  k_steps
  all_goals (exact hret _ _ _ _ (by k_asm) (by k_asm) (ratPost_end rfl rfl (by ktn_lt)))

theorem quot_does (w : World) (mean : ExcName → Option Value) (mg mb : Str → Option Value) (G : Great mg) (news : List (Addr × Obj)) (x y : Addr) (p q : Rat) (e f : Nat) (n1 n2 d1 d2 : Int) (t1 t2 t3 t4 : Tok) (c1 c2 : Nat)
    (i1 : n1 = p.num) (i2 : d1 = p.den) (i3 : n2 = q.num) (i4 : d2 = q.den) (hx : (x, tup2 n1 t1 d1 t2 c1) ∈ news) (hy : (y, tup2 n2 t3 d2 t4 c2) ∈ news) (hp : Sz e p) (hq : Sz f q) (hs : e + f + 1 ≤ 2300) (hn : q ≠ 0) :
    Does w mean mg mb 3 95 news [.ref x, .ref y] (RatPost (p / q).num (p / q).den news) := by
  subst i1 i2 i3 i4
  obtain ⟨GR, tG, hG, hGR⟩ := G
  have f1 : Fit p.num := hp.fitN (by omega)
  have f2 : Fit (p.den : Int) := hp.fitD (by omega)
  have f3 : Fit q.num := hq.fitN (by omega)
  have f4 : Fit (q.den : Int) := hq.fitD (by omega)
  have m1 := quot_t hp hq
  have m2 := quot_b hp hq
  have k1 := le_great m1 (by omega) hGR
  have k2 := le_great m2 (by omega) hGR
  have k3 := le_fit m2 (by omega)
  have k4 := dn_ne (p := p) hn
  rw [← quot_eq p q]
  intro dp un gd cn cs a ccd cl outer A₀ base h₀ L m s Q E B F X N T hk hd hu hret
  refine wpAny_call ?_
  k_dflt ktr_enter
  k_steps
  all_goals (exact hret _ _ _ _ (by k_asm) (by k_asm) (ratPost_end rfl rfl (by ktn_lt)))
end Mine
end
section
open PySem PySem.W PyProof.Rows PySem.Calls PySem.Spec
set_option Elab.async false
set_option maxRecDepth 100000
set_option maxHeartbeats 8000000
namespace Mine
abbrev pressObj (S : Addr) (k : Int) (t : Tok) (c : Nat) : Obj := { cls := .type "list", data := .seq #[.ref S, .int k t] c }
abbrev listObj (vs : List Value) (c : Nat) : Obj := { cls := .type "list", data := .seq vs.toArray c }
theorem ne_of_allLt {D : Addr} {news : List (Addr × Obj)} (h : AllLt D news) : ∀ p ∈ news, p.1 ≠ D := fun p hp => Nat.ne_of_lt (ktn_ltOf h p hp)
local macro_rules | `(tactic| k_mem) => `(tactic| first | exact List.mem_cons_self .. | ktr_member | (refine List.mem_cons_of_mem _ ?_; k_mem))
local macro_rules | `(tactic| k_all) => `(tactic| first | (with_reducible assumption) | exact ne_of_allLt (by assumption))
section
variable {prog : Program} {w : World} {A : Around} {E : Value → Shared → Prop} {s : Shared} {h₀ : Heap} {L D : Addr} {m : Str → Option Value} {news news' : List (Addr × Obj)} {vs : List Value} {n : Nat} {k : Int} {v : Value} {t : Tok}
theorem set_any {Q : Unit → Shared → Prop} (F : Fr h₀ L s.heap m) (N : News h₀ L s.heap news) (h0 : 0 ≤ k) (hfit : k < 2 ^ 63) (h1 : k.toNat < vs.length) (U : Upd D (listObj vs n) (listObj (vs.set k.toNat v) n) news news')
    (h : ∀ h', Fr h₀ L h' m → News h₀ L h' news' → Q () { s with heap := h' }) :
    wpAny (model prog w) A (setItem (.ref D) (.int k t) v) Q E s := by
  obtain ⟨pre, post, rfl, rfl, a, b⟩ := U.split
  have z := N (D, listObj vs n) (List.mem_append.mpr (.inr (.head _)))
  refine ki_setAt z.1 h0 hfit (by rw [List.size_toArray]; omega) (h _ (F.change (Heap.SameBut.update ..) z.2.1 z.2.2) (ki_turn _ N a b ?_ ?_))
  · show vs.toArray.setIfInBounds k.toNat v = (vs.set k.toNat v).toArray
    apply Array.toList_inj.mp
    simp
  · simp
theorem len_ints {l : Addr} {ns : List Int} {Q : Value → Shared → Prop} (N : News h₀ L s.heap news) (hm : (l, listObj vs n) ∈ news) (hi : IntsAre vs ns) (hl : ns.length ≤ 100000)
    (h : Q (.int ns.length (s.toks + 1)) { s with toks := s.toks + 1 + 1 }) : wpAny (model prog w) A (call (.builtin "len") [.ref l]) Q E s := by
  have e : vs.toArray.size = ns.length := by rw [List.size_toArray]; exact hi.length
  exact len_list (News.isList N hm) (by rw [e]; omega) (by rw [e]; exact h)
end
local macro_rules | `(tactic| walk_at "call builtin:len") => `(tactic| (k_here; (with_reducible show wpAny _ _ (call (Value.builtin "len") [Value.ref _]) _ _ _); k_dflt (refine' len_ints ?k1 ?k2 ?k3 ?k4 ?_; (case k1 => k_asm); (case k2 => k_mem); (case k3 => with_reducible assumption); (case k4 => omega); k_whole); (try dsimp only)))
local macro_rules | `(tactic| walk_at "setItem ref int") => `(tactic| (k_here; k_dflt (refine' set_any ?k1 ?k2 ?k3 ?k4 ?k5 ?k6 ?_; (case k1 => k_asm); (case k2 => k_asm); (case k3 => decide); (case k4 => decide); (case k5 => decide); (case k6 => k_upd); k_whole); intro h' F' N'; (try dsimp only [List.set] at N'); (try k_sweep)))
def PlatePost (P S : Addr) (k : Int) (c : Nat) (many : Int) (news news' : List (Addr × Obj)) (r : Value) : Prop := ∃ v u t', r = .int v u ∧ 0 ≤ v ∧ v < many ∧ news' = (P, pressObj S (k + 1) t' c) :: news
theorem platePost_end {P S : Addr} {k : Int} {c : Nat} {many : Int} {news : List (Addr × Obj)} {v : Int} {u t' : Nat} (hm : 0 < many) : PlatePost P S k c many news ((P, pressObj S (k + 1) t' c) :: news) (.int (v.fmod many) u) :=
  ⟨_, _, _, rfl, by rw [Int.fmod_eq_emod_of_nonneg _ (by omega)]; exact Int.emod_nonneg _ (by omega), by rw [Int.fmod_eq_emod_of_nonneg _ (by omega)]; exact Int.emod_lt_of_pos _ hm, rfl⟩
theorem plate_does (w : World) (mean : ExcName → Option Value) (mg mb : Str → Option Value) (news : List (Addr × Obj)) (P S : Addr) (k : Int) (tk : Tok) (c : Nat) (vs : List Value) (ns : List Int) (c2 : Nat) (many : Int) (t1 : Tok)
    (hS : (S, listObj vs c2) ∈ news) (hv : IntsAre vs ns) (hl : ns.length ≤ 40) (hk0 : 0 ≤ k) (hk1 : k ≤ 1000) (hm : 0 < many) (hm2 : many ≤ 9) (hd : ∀ p ∈ news, p.1 ≠ P) :
    Does w mean mg mb 1 131 ((P, pressObj S k tk c) :: news) [.ref P, .int many t1] (PlatePost P S k c many news) := by
  intro dp un gd cn cs a ccd cl outer A₀ base h₀ L m s Q E B F X N T hk hd hu hret
  refine wpAny_call ?_
  k_dflt ktr_enter
  k_steps
  all_goals (exact hret _ _ _ _ (by k_asm) (by k_asm) (platePost_end (by assumption)))
theorem use_plate {w : World} {mean : ExcName → Option Value} {mg mb : Str → Option Value} {all : List (Addr × Obj)} {P S : Addr} {k : Int} {tk : Tok} {c : Nat} {vs : List Value} {ns : List Int} {c2 : Nat} {many : Int} {t1 : Tok}
    {dp un : Nat} {gd : Option (List Code)} {cn : Str} {cs : Scope} {a : Addr} {ccd : Value} {cl : List (Str × Addr)} {outer : List Env} {A₀ : Around} {base h₀ : Heap} {L : Addr} {m : Str → Option Value} {s : Shared} {Q E : Value → Shared → Prop}
    (B : Below A₀ base outer h₀) (F : Fr h₀ L s.heap m) (X : (hd.heap_39 w.params).In h₀) (N : News h₀ L s.heap all) (T : Top hd.view_39 LO mean mg mb h₀) (hk : cs.kind = .function)
    (hd : dp + 1 < recursionLimit) (hu : un + 8 * 1 < cLine)
    (U₀ : Upd P (pressObj S k tk c) (pressObj S k tk c) all all) (hS : (S, listObj vs c2) ∈ all) (hv : IntsAre vs ns) (hl : ns.length ≤ 40) (hk0 : 0 ≤ k) (hk1 : k ≤ 1000) (hm : 0 < many) (hm2 : many ≤ 9) (hne : @Ne Nat S P)
    (ret : ∀ v u t' h' tk', 0 ≤ v → v < many → Fr h₀ L h' m → (∀ all', Upd P (pressObj S k tk c) (pressObj S (k + 1) t' c) all all' → News h₀ L h' all') → Q (.int v u) { s with heap := h', toks := tk' }) :
    wpAny (model PR w) (ktrTop dp un gd cn cs L a ccd cl outer) (call (.ref 131) [.ref P, .int many t1]) Q E s := by
  obtain ⟨pre, post, e1, -, h1, h2⟩ := U₀.split
  subst e1
  have hne' : ∀ p ∈ pre ++ post, p.1 ≠ P := fun p hp => (List.mem_append.mp hp).elim (h1 p) (h2 p)
  refine plate_does w mean mg mb (pre ++ post) P S k tk c vs ns c2 many t1 ?_ hv hl hk0 hk1 hm hm2 hne' dp un gd cn cs a ccd cl outer A₀ base h₀ L m s Q E B F X (fun p hp => N p ?_) T hk hd hu ?_
  · rcases List.mem_append.mp hS with h | h
    · exact List.mem_append.mpr (.inl h)
    · rcases List.mem_cons.mp h with h | h
      · exact absurd (congrArg Prod.fst h) hne
      · exact List.mem_append.mpr (.inr h)
  · rcases List.mem_cons.mp hp with rfl | h
    · exact List.mem_append.mpr (.inr (.head _))
    · rcases List.mem_append.mp h with h | h
      · exact List.mem_append.mpr (.inl h)
      · exact List.mem_append.mpr (.inr (.tail _ h))
  · rintro r news' h' tk' F' N' ⟨v, u, t', rfl, hv0, hv1, rfl⟩
    refine ret v u t' h' tk' hv0 hv1 F' fun all' U => ?_
    obtain ⟨pre', post', e1, e2, h1', h2'⟩ := U.split
    subst e2
    intro p hp
    have key : ∀ q ∈ pre' ++ post', q ∈ pre ++ post := fun q hq => by
      have hq' : q ∈ pre ++ (P, pressObj S k tk c) :: post := by
        rw [e1]
        rcases List.mem_append.mp hq with h | h
        · exact List.mem_append.mpr (.inl h)
        · exact List.mem_append.mpr (.inr (.tail _ h))
      rcases List.mem_append.mp hq' with h | h
      · exact List.mem_append.mpr (.inl h)
      · rcases List.mem_cons.mp h with h | h
        · exfalso
          have hqP : q.1 = P := by rw [h]
          rcases List.mem_append.mp hq with g | g
          · exact h1' q g hqP
          · exact h2' q g hqP
        · exact List.mem_append.mpr (.inr h)
    rcases List.mem_append.mp hp with h | h
    · exact N' p (.tail _ (key p (List.mem_append.mpr (.inl h))))
    · rcases List.mem_cons.mp h with rfl | h
      · exact N' _ (.head _)
      · exact N' p (.tail _ (key p (List.mem_append.mpr (.inr h))))
theorem upd_then {P : Addr} {o o' : Obj} {all all' : List (Addr × Obj)} {R : List (Addr × Obj) → Prop} {G : Prop} (h : ∀ all', Upd P o o' all all' → R all') (U : Upd P o o' all all') (g : R all' → G) : G := g (h _ U)
end Mine
end
section
open PySem PySem.W PyProof.Rows PySem.Calls PySem.Spec
set_option Elab.async false
set_option maxRecDepth 100000
set_option maxHeartbeats 8000000
namespace Mine
section
variable {w : World} {mean : ExcName → Option Value} {mg mb : Str → Option Value} {news : List (Addr × Obj)}
  {dp un : Nat} {gd : Option (List Code)} {cn : Str} {cs : Scope} {a : Addr} {ccd : Value} {cl : List (Str × Addr)} {outer : List Env} {A₀ : Around} {base h₀ : Heap} {L : Addr} {m : Str → Option Value} {s : Shared} {Q E : Value → Shared → Prop}
theorem sum_use {x y : Addr} {p q : Rat} {e f : Nat} {n1 n2 d1 d2 : Int} {t1 t2 t3 t4 : Tok} {c1 c2 : Nat} (B : Below A₀ base outer h₀) (F : Fr h₀ L s.heap m) (X : (hd.heap_39 w.params).In h₀) (N : News h₀ L s.heap news) (T : Top hd.view_39 LO mean mg mb h₀) (hk : cs.kind = .function) (hd : dp + 3 < recursionLimit) (hu : un + 8 * 3 < cLine) (G : Great mg) (hx : (x, tup2 n1 t1 d1 t2 c1) ∈ news) (hy : (y, tup2 n2 t3 d2 t4 c2) ∈ news) (i1 : n1 = p.num) (i2 : d1 = p.den) (i3 : n2 = q.num) (i4 : d2 = q.den) (hp : Sz e p) (hq : Sz f q) (hs : e + f + 1 ≤ 2300)
    (ret : ∀ D u1 u2 c h' tk', Fr h₀ L h' m → News h₀ L h' ((D, tup2 (p + q).num u1 (p + q).den u2 c) :: news) → AllLt D news → Sz (e + f + 1) (p + q) → Q (.ref D) { s with heap := h', toks := tk' }) :
    wpAny (model PR w) (ktrTop dp un gd cn cs L a ccd cl outer) (call (.ref 74) [.ref x, .ref y]) Q E s :=
  use_rat (sum_does w mean mg mb G news x y p q e f n1 n2 d1 d2 t1 t2 t3 t4 c1 c2 i1 i2 i3 i4 hx hy hp hq hs) B F X N T hk hd hu fun D u1 u2 c h' tk' F' N' l => ret D u1 u2 c h' tk' F' N' l (Sz.add hp hq)
theorem diff_use {x y : Addr} {p q : Rat} {e f : Nat} {n1 n2 d1 d2 : Int} {t1 t2 t3 t4 : Tok} {c1 c2 : Nat} (B : Below A₀ base outer h₀) (F : Fr h₀ L s.heap m) (X : (hd.heap_39 w.params).In h₀) (N : News h₀ L s.heap news) (T : Top hd.view_39 LO mean mg mb h₀) (hk : cs.kind = .function) (hd : dp + 3 < recursionLimit) (hu : un + 8 * 3 < cLine) (G : Great mg) (hx : (x, tup2 n1 t1 d1 t2 c1) ∈ news) (hy : (y, tup2 n2 t3 d2 t4 c2) ∈ news) (i1 : n1 = p.num) (i2 : d1 = p.den) (i3 : n2 = q.num) (i4 : d2 = q.den) (hp : Sz e p) (hq : Sz f q) (hs : e + f + 1 ≤ 2300)
    (ret : ∀ D u1 u2 c h' tk', Fr h₀ L h' m → News h₀ L h' ((D, tup2 (p - q).num u1 (p - q).den u2 c) :: news) → AllLt D news → Sz (e + f + 1) (p - q) → Q (.ref D) { s with heap := h', toks := tk' }) :
    wpAny (model PR w) (ktrTop dp un gd cn cs L a ccd cl outer) (call (.ref 81) [.ref x, .ref y]) Q E s :=
  use_rat (diff_does w mean mg mb G news x y p q e f n1 n2 d1 d2 t1 t2 t3 t4 c1 c2 i1 i2 i3 i4 hx hy hp hq hs) B F X N T hk hd hu fun D u1 u2 c h' tk' F' N' l => ret D u1 u2 c h' tk' F' N' l (Sz.sub hp hq)
theorem prod_use {x y : Addr} {p q : Rat} {e f : Nat} {n1 n2 d1 d2 : Int} {t1 t2 t3 t4 : Tok} {c1 c2 : Nat} (B : Below A₀ base outer h₀) (F : Fr h₀ L s.heap m) (X : (hd.heap_39 w.params).In h₀) (N : News h₀ L s.heap news) (T : Top hd.view_39 LO mean mg mb h₀) (hk : cs.kind = .function) (hd : dp + 3 < recursionLimit) (hu : un + 8 * 3 < cLine) (G : Great mg) (hx : (x, tup2 n1 t1 d1 t2 c1) ∈ news) (hy : (y, tup2 n2 t3 d2 t4 c2) ∈ news) (i1 : n1 = p.num) (i2 : d1 = p.den) (i3 : n2 = q.num) (i4 : d2 = q.den) (hp : Sz e p) (hq : Sz f q) (hs : e + f + 1 ≤ 2300)
    (ret : ∀ D u1 u2 c h' tk', Fr h₀ L h' m → News h₀ L h' ((D, tup2 (p * q).num u1 (p * q).den u2 c) :: news) → AllLt D news → Sz (e + f) (p * q) → Q (.ref D) { s with heap := h', toks := tk' }) :
    wpAny (model PR w) (ktrTop dp un gd cn cs L a ccd cl outer) (call (.ref 88) [.ref x, .ref y]) Q E s :=
  use_rat (prod_does w mean mg mb G news x y p q e f n1 n2 d1 d2 t1 t2 t3 t4 c1 c2 i1 i2 i3 i4 hx hy hp hq hs) B F X N T hk hd hu fun D u1 u2 c h' tk' F' N' l => ret D u1 u2 c h' tk' F' N' l (Sz.mul hp hq)
theorem quot_use {x y : Addr} {p q : Rat} {e f : Nat} {n1 n2 d1 d2 : Int} {t1 t2 t3 t4 : Tok} {c1 c2 : Nat} (B : Below A₀ base outer h₀) (F : Fr h₀ L s.heap m) (X : (hd.heap_39 w.params).In h₀) (N : News h₀ L s.heap news) (T : Top hd.view_39 LO mean mg mb h₀) (hk : cs.kind = .function) (hd : dp + 3 < recursionLimit) (hu : un + 8 * 3 < cLine) (G : Great mg) (hx : (x, tup2 n1 t1 d1 t2 c1) ∈ news) (hy : (y, tup2 n2 t3 d2 t4 c2) ∈ news) (i1 : n1 = p.num) (i2 : d1 = p.den) (i3 : n2 = q.num) (i4 : d2 = q.den) (hp : Sz e p) (hq : Sz f q) (hs : e + f + 1 ≤ 2300) (hn : q ≠ 0)
    (ret : ∀ D u1 u2 c h' tk', Fr h₀ L h' m → News h₀ L h' ((D, tup2 (p / q).num u1 (p / q).den u2 c) :: news) → AllLt D news → Sz (e + f) (p / q) → Q (.ref D) { s with heap := h', toks := tk' }) :
    wpAny (model PR w) (ktrTop dp un gd cn cs L a ccd cl outer) (call (.ref 95) [.ref x, .ref y]) Q E s :=
  use_rat (quot_does w mean mg mb G news x y p q e f n1 n2 d1 d2 t1 t2 t3 t4 c1 c2 i1 i2 i3 i4 hx hy hp hq hs hn) B F X N T hk hd hu fun D u1 u2 c h' tk' F' N' l => ret D u1 u2 c h' tk' F' N' l (Sz.div hp hq hn)
theorem neg_use {x : Addr} {p : Rat} {e : Nat} {n1 d1 : Int} {t1 t2 : Tok} {c1 : Nat} (B : Below A₀ base outer h₀) (F : Fr h₀ L s.heap m) (X : (hd.heap_39 w.params).In h₀) (N : News h₀ L s.heap news) (T : Top hd.view_39 LO mean mg mb h₀) (hk : cs.kind = .function) (hd : dp + 1 < recursionLimit) (hu : un + 8 * 1 < cLine) (hx : (x, tup2 n1 t1 d1 t2 c1) ∈ news) (i1 : n1 = p.num) (i2 : d1 = p.den) (hp : Sz e p)
    (ret : ∀ D u1 u2 c h' tk', Fr h₀ L h' m → News h₀ L h' ((D, tup2 (-p).num u1 (-p).den u2 c) :: news) → AllLt D news → Sz e (-p) → Q (.ref D) { s with heap := h', toks := tk' }) :
    wpAny (model PR w) (ktrTop dp un gd cn cs L a ccd cl outer) (call (.ref 102) [.ref x]) Q E s := by
  subst i1 i2
  exact use_rat (neg_does w mean mg mb news x p.num p.den t1 t2 c1 hx) B F X N T hk hd hu fun D u1 u2 c h' tk' F' N' l => ret D u1 u2 c h' tk' F' N' l (Sz.neg hp)
end
local macro_rules | `(tactic| k_mem) => `(tactic| ((repeat' (first | (with_reducible exact List.mem_cons_self ..) | ktr_member | (with_reducible refine List.mem_cons_of_mem _ ?_))); done))
local macro_rules | `(tactic| mul_fits) => `(tactic| exact Fit.mul (by assumption) (by assumption))
def ordI (a b : Int) : Int := if a < b then -1 else if b < a then 1 else 0
theorem ordI_lt {a b : Int} (h : a < b) : -1 = ordI a b := by unfold ordI; rw [if_pos h]
theorem ordI_gt {a b : Int} (h : ¬ a < b) (g : b < a) : 1 = ordI a b := by unfold ordI; rw [if_neg h, if_pos g]
theorem ordI_eq {a b : Int} (h : ¬ a < b) (g : ¬ b < a) : 0 = ordI a b := by unfold ordI; rw [if_neg h, if_neg g]
def ordR (p q : Rat) : Int := ordI (p.num * q.den) (q.num * p.den)
theorem order_does (w : World) (mean : ExcName → Option Value) (mg mb : Str → Option Value) (news : List (Addr × Obj)) (x y : Addr) (p q : Rat) (e f : Nat) (n1 n2 d1 d2 : Int) (t1 t2 t3 t4 : Tok) (c1 c2 : Nat)
    (i1 : n1 = p.num) (i2 : d1 = p.den) (i3 : n2 = q.num) (i4 : d2 = q.den) (hx : (x, tup2 n1 t1 d1 t2 c1) ∈ news) (hy : (y, tup2 n2 t3 d2 t4 c2) ∈ news) (hp : Sz e p) (hq : Sz f q) (hs : e + f + 1 ≤ 2300) :
    Does w mean mg mb 1 116 news [.ref x, .ref y] (IntPost (ordR p q) news) := by
  subst i1 i2 i3 i4
  have f1 : Fit p.num := hp.fitN (by omega)
  have f2 : Fit (p.den : Int) := hp.fitD (by omega)
  have f3 : Fit q.num := hq.fitN (by omega)
  have f4 : Fit (q.den : Int) := hq.fitD (by omega)
  intro dp un gd cn cs a ccd cl outer A₀ base h₀ L m s Q E B F X N T hk hd hu hret
  refine wpAny_call ?_
  k_dflt ktr_enter
  k_steps
  all_goals (exact hret _ _ _ _ (by k_asm) (by k_asm) (intPost_end (by first | exact ordI_lt (by assumption) | exact ordI_gt (by assumption) (by assumption) | exact ordI_eq (by assumption) (by assumption))))
section
variable {w : World} {mean : ExcName → Option Value} {mg mb : Str → Option Value} {news : List (Addr × Obj)}
  {dp un : Nat} {gd : Option (List Code)} {cn : Str} {cs : Scope} {a : Addr} {ccd : Value} {cl : List (Str × Addr)} {outer : List Env} {A₀ : Around} {base h₀ : Heap} {L : Addr} {m : Str → Option Value} {s : Shared} {Q E : Value → Shared → Prop}
theorem order_use {x y : Addr} {p q : Rat} {e f : Nat} {n1 n2 d1 d2 : Int} {t1 t2 t3 t4 : Tok} {c1 c2 : Nat} (B : Below A₀ base outer h₀) (F : Fr h₀ L s.heap m) (X : (hd.heap_39 w.params).In h₀) (N : News h₀ L s.heap news) (T : Top hd.view_39 LO mean mg mb h₀) (hk : cs.kind = .function) (hd : dp + 1 < recursionLimit) (hu : un + 8 * 1 < cLine) (hx : (x, tup2 n1 t1 d1 t2 c1) ∈ news) (hy : (y, tup2 n2 t3 d2 t4 c2) ∈ news) (i1 : n1 = p.num) (i2 : d1 = p.den) (i3 : n2 = q.num) (i4 : d2 = q.den) (hp : Sz e p) (hq : Sz f q) (hs : e + f + 1 ≤ 2300)
    (ret : ∀ u h' tk', Fr h₀ L h' m → News h₀ L h' news → Q (.int (ordR p q) u) { s with heap := h', toks := tk' }) :
    wpAny (model PR w) (ktrTop dp un gd cn cs L a ccd cl outer) (call (.ref 116) [.ref x, .ref y]) Q E s :=
  use_int (order_does w mean mg mb news x y p q e f n1 n2 d1 d2 t1 t2 t3 t4 c1 c2 i1 i2 i3 i4 hx hy hp hq hs) B F X N T hk hd hu ret
end
def rndR (p : Rat) : Int := if p.num < 0 then -((2 * (if p.num < 0 then -p.num else p.num) + p.den).fdiv (2 * p.den)) else (2 * (if p.num < 0 then -p.num else p.num) + p.den).fdiv (2 * p.den)
theorem rndR_neg {p : Rat} (h : p.num < 0) : -((2 * (if p.num < 0 then -p.num else p.num) + p.den).fdiv (2 * p.den)) = rndR p := by unfold rndR; exact (if_pos h).symm
theorem rndR_pos {p : Rat} (h : ¬ p.num < 0) : (2 * (if p.num < 0 then -p.num else p.num) + p.den).fdiv (2 * p.den) = rndR p := by unfold rndR; exact (if_neg h).symm
theorem fit_2den {p : Rat} {e : Nat} (hp : Sz e p) (he : e ≤ 2300) : Fit (2 * (p.den : Int)) := le_fit (e := e + 1) (by rw [Int.natAbs_mul, Int.natAbs_natCast, Nat.pow_succ, show (2:Int).natAbs = 2 from rfl]; have := hp.2; omega) (by omega)
theorem two_den_ne {p : Rat} : 2 * (p.den : Int) ≠ 0 := by have := p.den_nz; omega
local macro_rules | `(tactic| walk_at "binaryOp FloorDiv int int") => `(tactic| ((with_reducible show wpAny _ _ (binaryOp _ (Value.int _ _) (Value.int _ _)) _ _ _); with_reducible refine fdiv_rule (by assumption) (by assumption) ?_; (try dsimp only)))
theorem rounded_does (w : World) (mean : ExcName → Option Value) (mg mb : Str → Option Value) (news : List (Addr × Obj)) (x : Addr) (p : Rat) (e : Nat) (n1 d1 : Int) (t1 t2 : Tok) (c1 : Nat)
    (i1 : n1 = p.num) (i2 : d1 = p.den) (hx : (x, tup2 n1 t1 d1 t2 c1) ∈ news) (hp : Sz e p) (hs : e ≤ 2300) :
    Does w mean mg mb 1 123 news [.ref x] (IntPost (rndR p) news) := by
  subst i1 i2
  have f1 := fit_2den hp hs
  have f2 := two_den_ne (p := p)
  have f3 : Fit (2 : Int) := le_fit (e := 2) (by decide) (by decide)
  have f4 : IntMulOk 2 (if p.num < 0 then -p.num else p.num) := IntMulOk.of_left (by decide)
  have f5 : IntMulOk 2 (p.den : Int) := IntMulOk.of_left (by decide)
  intro dp un gd cn cs a ccd cl outer A₀ base h₀ L m s Q E B F X N T hk hd hu hret
  refine wpAny_call ?_
  k_dflt ktr_enter
  k_steps
  all_goals (exact hret _ _ _ _ (by k_asm) (by k_asm) (intPost_end (by first | exact rndR_neg (by assumption) | exact rndR_pos (by assumption))))
end Mine
end
section
open PySem PySem.W PyProof.Rows PySem.Calls PySem.Spec
set_option Elab.async false
set_option maxRecDepth 100000
set_option maxHeartbeats 8000000
namespace Mine
section
variable {prog : Program} {w : World} {A : Around} {E : Value → Shared → Prop} {s : Shared} {env : Env} {h₀ : Heap} {x : Str} {body : List Stmt} {Q : Flow → Shared → Prop}
def TurnsC (prog : Program) (w : World) (A : Around) (E : Value → Shared → Prop) (h₀ : Heap) (env : Env) (x : Str) (body : List Stmt) (Q : Flow → Shared → Prop) (s : Shared) (I : Addr) : List Int → (Str → Option Value) → List (Addr × Obj) → Prop
  | [], m, news => ∀ h tk, Fr h₀ env.locals h m → News h₀ env.locals h news → Q .next { s with heap := h, toks := tk }
  | v :: r, m, news => ∀ (it : Obj) t h tk, Fr h₀ env.locals h m → News h₀ env.locals h ((I, it) :: news) →
      wpAny (model prog w) A (storeName env x (.int v t)) (fun _ s' => wpAny (model prog w) A (execs body env)
        (UnrPost h₀ env.locals s I it (TurnsC prog w A E h₀ env x body Q s I r) Q) E s') E { s with heap := h, toks := tk }
theorem TurnsC.zero {I : Addr} {m : Str → Option Value} {news : List (Addr × Obj)} (h : ∀ h tk, Fr h₀ env.locals h m → News h₀ env.locals h news → Q .next { s with heap := h, toks := tk }) :
    TurnsC prog w A E h₀ env x body Q s I [] m news := h
theorem TurnsC.succ {I : Addr} {v : Int} {r : List Int} {m : Str → Option Value} {news : List (Addr × Obj)}
    (h : ∀ (it : Obj) t h tk, Fr h₀ env.locals h m → News h₀ env.locals h ((I, it) :: news) →
      wpAny (model prog w) A (storeName env x (.int v t)) (fun _ s' => wpAny (model prog w) A (execs body env)
        (UnrPost h₀ env.locals s I it (TurnsC prog w A E h₀ env x body Q s I r) Q) E s') E { s with heap := h, toks := tk }) :
    TurnsC prog w A E h₀ env x body Q s I (v :: r) m news := h
def LoopC (prog : Program) (w : World) (A : Around) (E : Value → Shared → Prop) (env : Env) (x : Str) (px : Pos) (body : List Stmt) (Q : Flow → Shared → Prop) (it : Value) (s₂ : Shared) : Prop :=
  codeAny (model prog w) A (.forLoop (.Name x px) it body [] env) (fun r s' => match r with | .ok f => Q f s' | .error e => cameBackBy (model prog w) A env E e s') s₂
theorem For_C {px pos : Pos} {iter : PySem.Expr} (h : wpAny (model prog w) A (eval iter env) (fun xv s₁ => wpAny (model prog w) A (pyIter xv) (LoopC prog w A E env x px body Q) E s₁) E s)
    (hs : ∀ x, foldedSetIterable iter env x = pure x := by intro _; rfl) : wpAny (model prog w) A (exec (.For (.Name x px) iter body [] pos) env) Q E s :=
  wpAny_For h hs
def upFrom (a : Int) : Nat → List Int
  | 0 => []
  | n + 1 => a :: upFrom (a + 1) n
theorem upFrom_len : ∀ (n : Nat) (a : Int), (upFrom a n).length = n
  | 0, _ => rfl
  | n + 1, a => by rw [upFrom, List.length_cons, upFrom_len n]
theorem upFrom_get : ∀ (n : Nat) (a : Int) (i : Nat), i < n → (upFrom a n)[i]? = some (a + (i : Int))
  | n + 1, a, 0, _ => by simp [upFrom]
  | n + 1, a, i + 1, h => by
    rw [upFrom, List.getElem?_cons_succ, upFrom_get n (a + 1) i (by omega)]
    congr 1
    omega
theorem iter_rangeC {px : Pos} {r : Addr} {a₀ b₀ : Int} {t₀ u₀ v₀ : Tok} {its : List Int} {m₀ : Str → Option Value} {news : List (Addr × Obj)}
    (hh : A.handled = none) (hr : IsRange s.heap r a₀ b₀ 1 t₀ u₀ v₀) (hsmall : Builtin.Range.small a₀ b₀ 1 = true) (hits : upFrom a₀ (Builtin.Range.rangeSize a₀ b₀ 1).toNat = its) (hpos : 0 ≤ Builtin.Range.rangeSize a₀ b₀ 1) (F : Fr h₀ env.locals s.heap m₀) (N : News h₀ env.locals s.heap news)
    (hE : PassesOwn (model prog w) A env E)
    (rest₀ : ∀ I : Addr, (∀ p ∈ news, p.1 < I) → TurnsC prog w A E h₀ env x body Q s I its m₀ news) :
    wpAny (model prog w) A (pyIter (.ref r)) (LoopC prog w A E env x px body Q) E s := by
  subst hits
  obtain ⟨n, hn⟩ : ∃ n : Nat, Builtin.Range.rangeSize a₀ b₀ 1 = (n : Int) := ⟨_, (Int.toNat_of_nonneg hpos).symm⟩
  have hnt : (Builtin.Range.rangeSize a₀ b₀ 1).toNat = n := by rw [hn]; rfl
  rw [hnt] at rest₀
  refine wpAny_pyIter_range hr hsmall ?_
  have rest := rest₀ s.heap.objs.size fun p hp => Heap.lt_size (N p hp).1
  have W := PyProof.Rows.LCg.range_walks (prog := prog) (w := w) (A := A) (I := s.heap.objs.size) hh a₀ n
  have hnew := next_is_new F
  have hIL : env.locals ≠ s.heap.objs.size := Nat.ne_of_lt F.ns.lt
  have old : ∀ b o, s.heap.get? b = some o → (s.heap.push { cls := .type "range_iterator", data := .fields #[rawInt a₀, rawInt (Builtin.Range.rangeSize a₀ b₀ 1), rawInt 1] }).get? b = some o := fun b o e => Heap.get?_push_of_some _ e
  refine codeAny_forLoop_any
    (fun k s' => ∃ h' tk m' news' i, s' = { s with heap := h', toks := tk } ∧ IsRangeIter h' s.heap.objs.size (a₀ + (i : Nat) * 1) ((n : Int) - (i : Nat)) 1 ∧ Fr h₀ env.locals h' m' ∧ News h₀ env.locals h' news' ∧ (∀ p ∈ news', p.1 ≠ s.heap.objs.size) ∧
      TurnsC prog w A E h₀ env x body Q s s.heap.objs.size ((upFrom a₀ n).drop i) m' news' ∧ i ≤ n ∧ k = n + 1 - i) ?_ (n + 1)
    ⟨_, s.toks, m₀, news, 0, rfl, (by show IsRangeIter _ _ _ _ _; rw [hn]; simpa using Heap.get?_push_size _ rfl), F.push _, (fun p hp => ⟨old _ _ (N p hp).1, (N p hp).2⟩), (fun p hp => Nat.ne_of_lt (Heap.lt_size (N p hp).1)), rest, Nat.zero_le _, rfl⟩
  rintro k s' ⟨h', tk, m', news', i, rfl, hst, F', N', hoff, R, hi, rfl⟩
  by_cases hlt : i < n
  · have hd : (upFrom a₀ n).drop i = (a₀ + (i : Int)) :: (upFrom a₀ n).drop (i + 1) := by
      have hl : i < (upFrom a₀ n).length := by rw [upFrom_len]; exact hlt
      rw [List.drop_eq_getElem_cons hl]
      congr 1
      exact Option.some.inj ((List.getElem?_eq_getElem hl).symm.trans (upFrom_get n a₀ i hlt))
    rw [hd] at R
    refine W.item i _ _ _ hlt hst fun v h₁ tk₁ hP hst₁ hk₁ => ?_
    obtain ⟨t, rfl⟩ := hP
    refine wpAny_pure ?_
    have F₁ := PyProof.Rows.LCg.fr_but F' hk₁ hIL hnew
    have hst₁' : h₁.get? s.heap.objs.size = some (itR (a₀ + ((i + 1 : Nat) : Int)) ((n : Int) - ((i + 1 : Nat) : Int))) := by
      have q : IsRangeIter h₁ s.heap.objs.size (a₀ + ((i + 1 : Nat) : Int) * 1) ((n : Int) - ((i + 1 : Nat) : Int)) 1 := hst₁
      rw [Int.mul_one] at q
      exact q
    have N₁ : News h₀ env.locals h₁ ((s.heap.objs.size, itR (a₀ + ((i + 1 : Nat) : Int)) ((n : Int) - ((i + 1 : Nat) : Int))) :: news') := fun p hp => by
      rcases List.mem_cons.mp hp with rfl | hp
      · exact ⟨hst₁', Ne.symm hIL, hnew⟩
      · exact PyProof.Rows.LCg.news_but N' hk₁ hoff p hp
    refine wpAny_assign_Name (wpAny_passesOwn hE (wpAny_mono (R _ t h₁ tk₁ F₁ N₁) (fun _ s₂ h₂ => wpAny_passesOwn hE (wpAny_mono h₂ (fun f s₃ h₃ => ?_) fun _ _ e => e)) fun _ _ e => e))
    have fin : UnrEnd h₀ env.locals s s.heap.objs.size (itR (a₀ + ((i + 1 : Nat) : Int)) ((n : Int) - ((i + 1 : Nat) : Int))) (TurnsC prog w A E h₀ env x body Q s s.heap.objs.size ((upFrom a₀ n).drop (i + 1))) s₃ → ∃ m, m < n + 1 - i ∧ ∃ h' tk m' news' i, s₃ = { s with heap := h', toks := tk } ∧ IsRangeIter h' s.heap.objs.size (a₀ + (i : Nat) * 1) ((n : Int) - (i : Nat)) 1 ∧ Fr h₀ env.locals h' m' ∧ News h₀ env.locals h' news' ∧ (∀ p ∈ news', p.1 ≠ s.heap.objs.size) ∧
      TurnsC prog w A E h₀ env x body Q s s.heap.objs.size ((upFrom a₀ n).drop i) m' news' ∧ i ≤ n ∧ m = n + 1 - i := by
      rintro ⟨h'', tk'', m'', news'', rfl, F'', N'', ho, r⟩
      refine ⟨n + 1 - (i + 1), by omega, h'', tk'', m'', news'', i + 1, rfl, ?_, F'', fun p hp => N'' p (.tail _ hp), ho, r, hlt, rfl⟩
      have q := (N'' _ (.head _)).1
      show h''.get? s.heap.objs.size = _
      rw [Int.mul_one]
      exact q
    cases f with
    | ret v => exact h₃
    | brk => exact h₃
    | next => exact fin h₃
    | cont => exact fin h₃
  · have hin : i = n := by omega
    subst hin
    have hd : (upFrom a₀ i).drop i = [] := by rw [List.drop_eq_nil_iff, upFrom_len]; exact Nat.le_refl _
    rw [hd] at R
    refine W.done _ _ _ hst fun h₁ tk₁ hk₁ => wpAny_execs_nil ?_
    exact R h₁ tk₁ (PyProof.Rows.LCg.fr_but F' hk₁ hIL hnew) (PyProof.Rows.LCg.news_but N' hk₁ hoff)
end
theorem AllLt.mono {D D' : Addr} {l : List (Addr × Obj)} (h : AllLt D l) (hd : @LE.le Nat _ D D') : AllLt D' l := allLt_of fun p hp => Nat.lt_of_lt_of_le (ktn_ltOf h p hp) hd
end Mine
end
section
open PySem PySem.W PyProof.Rows PySem.Calls PySem.Spec
set_option Elab.async false
set_option maxRecDepth 100000
set_option maxHeartbeats 8000000
namespace Mine
theorem ne_id {D : Addr} {l : List (Addr × Obj)} (h : ∀ p ∈ l, p.1 ≠ D) : ∀ p ∈ l, p.1 ≠ D := h
theorem ne_of_allLt_le {D D' : Addr} {l : List (Addr × Obj)} (h : AllLt D l) (hd : @LE.le Nat _ D D') : ∀ p ∈ l, p.1 ≠ D' := ne_of_allLt (AllLt.mono h hd)
theorem off3_I {I C D : Addr} {l : List (Addr × Obj)} (h : LCg.Off3 I C D l) : ∀ p ∈ l, p.1 ≠ I := fun p hp => (h.mem p hp).1
theorem off3_C {I C D : Addr} {l : List (Addr × Obj)} (h : LCg.Off3 I C D l) : ∀ p ∈ l, p.1 ≠ C := fun p hp => (h.mem p hp).2.1
theorem off3_D {I C D : Addr} {l : List (Addr × Obj)} (h : LCg.Off3 I C D l) : ∀ p ∈ l, p.1 ≠ D := fun p hp => (h.mem p hp).2.2
theorem off1_mem {D : Addr} : ∀ {l : List (Addr × Obj)}, LCg.Off1 D l → ∀ p ∈ l, p.1 ≠ D
  | [], _, _, h => nomatch h
  | _ :: _, x, p, h => by
    rcases List.mem_cons.mp h with rfl | h
    · exact x.1
    · exact off1_mem x.2 p h
def Ne3 (I C D : Addr) : Prop := @Ne Nat I C ∧ @Ne Nat I D ∧ @Ne Nat C D
theorem Ne3.mk' {I C D : Addr} (h : @Ne Nat I C ∧ @Ne Nat I D ∧ @Ne Nat C D) : Ne3 I C D := h
theorem Ne3.ci {I C D : Addr} (h : Ne3 I C D) : @Ne Nat C I := fun e => h.1 e.symm
theorem Ne3.di {I C D : Addr} (h : Ne3 I C D) : @Ne Nat D I := fun e => h.2.1 e.symm
theorem Ne3.dc {I C D : Addr} (h : Ne3 I C D) : @Ne Nat D C := fun e => h.2.2 e.symm
theorem ne_lt {D b : Addr} {o : Obj} {l : List (Addr × Obj)} (h : AllLt D l) (hm : (b, o) ∈ l) : @Ne Nat b D := Nat.ne_of_lt (ktn_ltOf h _ hm)
theorem ne_lt' {D b : Addr} {o : Obj} {l : List (Addr × Obj)} (h : AllLt D l) (hm : (b, o) ∈ l) : @Ne Nat D b := fun e => Nat.ne_of_lt (ktn_ltOf h _ hm) e.symm
theorem tail_lt {D : Addr} {l l' : List (Addr × Obj)} (h : AllLt D l) (hs : ∀ p ∈ l', p ∈ l) : ∀ p ∈ l', p.1 ≠ D := fun p hp => Nat.ne_of_lt (ktn_ltOf h p (hs p hp))
theorem tail_off1 {D : Addr} {l l' : List (Addr × Obj)} (h : LCg.Off1 D l) (hs : ∀ p ∈ l', p ∈ l) : ∀ p ∈ l', p.1 ≠ D := fun p hp => off1_mem h p (hs p hp)
theorem tail_off3I {I C D : Addr} {l l' : List (Addr × Obj)} (h : LCg.Off3 I C D l) (hs : ∀ p ∈ l', p ∈ l) : ∀ p ∈ l', p.1 ≠ I := fun p hp => off3_I h p (hs p hp)
theorem tail_off3C {I C D : Addr} {l l' : List (Addr × Obj)} (h : LCg.Off3 I C D l) (hs : ∀ p ∈ l', p ∈ l) : ∀ p ∈ l', p.1 ≠ C := fun p hp => off3_C h p (hs p hp)
theorem tail_off3D {I C D : Addr} {l l' : List (Addr × Obj)} (h : LCg.Off3 I C D l) (hs : ∀ p ∈ l', p ∈ l) : ∀ p ∈ l', p.1 ≠ D := fun p hp => off3_D h p (hs p hp)
theorem ne_off1 {D b : Addr} {o : Obj} {l : List (Addr × Obj)} (h : LCg.Off1 D l) (hm : (b, o) ∈ l) : @Ne Nat b D := off1_mem h _ hm
theorem ne_off1' {D b : Addr} {o : Obj} {l : List (Addr × Obj)} (h : LCg.Off1 D l) (hm : (b, o) ∈ l) : @Ne Nat D b := fun e => off1_mem h _ hm e.symm
theorem ne_off3I {I C D b : Addr} {o : Obj} {l : List (Addr × Obj)} (h : LCg.Off3 I C D l) (hm : (b, o) ∈ l) : @Ne Nat b I := (h.mem _ hm).1
theorem ne_off3C {I C D b : Addr} {o : Obj} {l : List (Addr × Obj)} (h : LCg.Off3 I C D l) (hm : (b, o) ∈ l) : @Ne Nat b C := (h.mem _ hm).2.1
theorem ne_off3D {I C D b : Addr} {o : Obj} {l : List (Addr × Obj)} (h : LCg.Off3 I C D l) (hm : (b, o) ∈ l) : @Ne Nat b D := (h.mem _ hm).2.2
theorem ne_off3I' {I C D b : Addr} {o : Obj} {l : List (Addr × Obj)} (h : LCg.Off3 I C D l) (hm : (b, o) ∈ l) : @Ne Nat I b := fun e => (h.mem _ hm).1 e.symm
theorem ne_off3C' {I C D b : Addr} {o : Obj} {l : List (Addr × Obj)} (h : LCg.Off3 I C D l) (hm : (b, o) ∈ l) : @Ne Nat C b := fun e => (h.mem _ hm).2.1 e.symm
theorem ne_off3D' {I C D b : Addr} {o : Obj} {l : List (Addr × Obj)} (h : LCg.Off3 I C D l) (hm : (b, o) ∈ l) : @Ne Nat D b := fun e => (h.mem _ hm).2.2 e.symm
theorem comp_keep {h₀ : Heap} {L I C D : Addr} {m : Str → Option Value} {s₁ : Shared} {oI oC oD : Obj} {S : List (Addr × Obj) → Prop} {rest : Value → List (Addr × Obj) → Prop} {a : Addr} {o : Obj} {h' : Heap} {tk : Nat} {all tail : List (Addr × Obj)}
    (F : Fr h₀ L h' m) (N : News h₀ L h' all) (O : LCg.Off3 I C D tail) (hk : (a, o) ∈ all) (h1 : @Ne Nat a I) (h2 : @Ne Nat a C) (h3 : @Ne Nat a D) (hs : ∀ p ∈ (I, oI) :: (C, oC) :: (D, oD) :: tail, p ∈ all) (hS : S ((a, o) :: tail)) (r : rest (.ref a) ((a, o) :: tail)) :
    LCg.CompEnd h₀ L m s₁ I oI C oC D oD S rest (.ref a) { s₁ with heap := h', toks := tk } :=
  LCg.CompEnd.intro F N ((a, o) :: tail) (fun p hp => by
    rcases List.mem_cons.mp hp with rfl | hp
    · exact hs _ (.head _)
    · rcases List.mem_cons.mp hp with rfl | hp
      · exact hs _ (.tail _ (.head _))
      · rcases List.mem_cons.mp hp with rfl | hp
        · exact hs _ (.tail _ (.tail _ (.head _)))
        · rcases List.mem_cons.mp hp with rfl | hp
          · exact hk
          · exact hs _ (.tail _ (.tail _ (.tail _ hp)))) ⟨⟨h1, h2, h3⟩, O⟩ hS r
theorem unr_keep {h₀ : Heap} {L : Addr} {s₁ : Shared} {I : Addr} {it : Obj} {rest : (Str → Option Value) → List (Addr × Obj) → Prop} {h' : Heap} {tk : Nat} {m' : Str → Option Value} {all tail : List (Addr × Obj)} {a : Addr} {o : Obj}
    (F : Fr h₀ L h' m') (N : News h₀ L h' all) (hs : ∀ p ∈ (I, it) :: tail, p ∈ all) (hk : (a, o) ∈ all) (h1 : @Ne Nat a I) (off : ∀ p ∈ tail, p.1 ≠ I) (r : rest m' ((a, o) :: tail)) : UnrEnd h₀ L s₁ I it rest { s₁ with heap := h', toks := tk } :=
  UnrEnd.intro F N ((a, o) :: tail) (fun p hp => by
    rcases List.mem_cons.mp hp with rfl | hp
    · exact hs _ (.head _)
    · rcases List.mem_cons.mp hp with rfl | hp
      · exact hk
      · exact hs _ (.tail _ hp)) (fun p hp => by
    rcases List.mem_cons.mp hp with rfl | hp
    · exact h1
    · exact off p hp) r
theorem mem_step {α : Type} {l l' : List α} {a : α} (h : ∀ p ∈ l, p ∈ l') : ∀ p ∈ l, p ∈ a :: l' := fun p hp => .tail _ (h p hp)
theorem mem_same {α : Type} {l : List α} : ∀ p ∈ l, p ∈ l := fun _ h => h
local macro_rules | `(tactic| k_mem) => `(tactic| ((repeat' (first | (with_reducible exact List.mem_cons_self ..) | ktr_member | (with_reducible refine List.mem_cons_of_mem _ ?_))); done))
local macro_rules | `(tactic| mul_fits) => `(tactic| exact Fit.mul (by assumption) (by assumption))
local macro_rules | `(tactic| k_lt $h:ident) => `(tactic| replace $h := allLt_of $h)
local macro_rules | `(tactic| k_ne) => `(tactic| ((refine neN ?_); (try dsimp only); first | (with_reducible assumption) | (refine' Ne3.ci ?oa; (case oa => with_reducible assumption)) | (refine' Ne3.di ?oa; (case oa => with_reducible assumption)) | (refine' Ne3.dc ?oa; (case oa => with_reducible assumption)) | (refine' ne_lt ?oa ?ob; (case oa => with_reducible assumption); (case ob => k_mem)) | (refine' ne_lt' ?oa ?ob; (case oa => with_reducible assumption); (case ob => k_mem)) | (refine' ne_off1 ?oa ?ob; (case oa => with_reducible assumption); (case ob => k_mem)) | (refine' ne_off1' ?oa ?ob; (case oa => with_reducible assumption); (case ob => k_mem)) | (refine' ne_off3I ?oa ?ob; (case oa => with_reducible assumption); (case ob => k_mem)) | (refine' ne_off3C ?oa ?ob; (case oa => with_reducible assumption); (case ob => k_mem)) | (refine' ne_off3D ?oa ?ob; (case oa => with_reducible assumption); (case ob => k_mem)) | (refine' ne_off3I' ?oa ?ob; (case oa => with_reducible assumption); (case ob => k_mem)) | (refine' ne_off3C' ?oa ?ob; (case oa => with_reducible assumption); (case ob => k_mem)) | (refine' ne_off3D' ?oa ?ob; (case oa => with_reducible assumption); (case ob => k_mem)) | omega))
local macro_rules | `(tactic| k_all) => `(tactic| ((repeat' (first | (with_reducible refine' List.forall_mem_cons.mpr ⟨?_, ?_⟩) | exact List.forall_mem_nil _ | (refine' ne_id ?oa; (case oa => with_reducible assumption)) | (refine' tail_lt ?oa ?ob; (case oa => with_reducible assumption); (case ob => kcj_all)) | (refine' tail_off1 ?oa ?ob; (case oa => with_reducible assumption); (case ob => kcj_all)) | (refine' tail_off3I ?oa ?ob; (case oa => with_reducible assumption); (case ob => kcj_all)) | (refine' tail_off3C ?oa ?ob; (case oa => with_reducible assumption); (case ob => kcj_all)) | (refine' tail_off3D ?oa ?ob; (case oa => with_reducible assumption); (case ob => kcj_all)) | (refine' ne_of_allLt_le ?oa ?ob; (case oa => with_reducible assumption); (case ob => omega)) | k_ne)); done))
local macro_rules | `(tactic| k_upd) => `(tactic| ((repeat' (first | (with_reducible refine' Del.head ?_) | (with_reducible refine' Del.tail ?_ ?_) | (with_reducible refine' Upd.head ?_) | (with_reducible refine' Upd.tail ?_ ?_) | (with_reducible refine' UpdF.head ?_) | (with_reducible refine' UpdF.tail ?_ ?_) | k_all | k_ne)); done))
local macro_rules | `(tactic| kcj_all) => `(tactic| ((repeat' (first | (with_reducible exact mem_same) | exact List.forall_mem_nil _ | (with_reducible refine' List.forall_mem_cons.mpr ⟨?_, ?_⟩) | (with_reducible refine' mem_step ?_) | k_mem)); done))
theorem AllLt.sub {D : Addr} {l l' : List (Addr × Obj)} (h : AllLt D l) (hs : ∀ p ∈ l', p ∈ l) : AllLt D l' := allLt_of fun p hp => ktn_ltOf h p (hs p hp)
theorem ne_of_allLt_sub {D : Addr} {l l' : List (Addr × Obj)} (h : AllLt D l) (hs : ∀ p ∈ l', p ∈ l) : ∀ p ∈ l', p.1 ≠ D := ne_of_allLt (AllLt.sub h hs)
inductive Del (I : Addr) (it : Obj) : List (Addr × Obj) → List (Addr × Obj) → Prop
  | head {r} : (∀ p ∈ r, p.1 ≠ I) → Del I it ((I, it) :: r) r
  | tail {p r r'} : p.1 ≠ I → Del I it r r' → Del I it (p :: r) (p :: r')
theorem Del.facts {I : Addr} {it : Obj} : ∀ {l l' : List (Addr × Obj)}, Del I it l l' → (I, it) ∈ l ∧ (∀ p ∈ l', p ∈ l) ∧ ∀ p ∈ l', p.1 ≠ I
  | _, _, .head h => ⟨.head _, fun p hp => .tail _ hp, h⟩
  | _, _, .tail (p := q) h r => by
    obtain ⟨a, b, c⟩ := r.facts
    refine ⟨.tail _ a, fun p hp => ?_, fun p hp => ?_⟩
    · rcases List.mem_cons.mp hp with rfl | hp
      · exact .head _
      · exact .tail _ (b p hp)
    · rcases List.mem_cons.mp hp with rfl | hp
      · exact h
      · exact c p hp
theorem unr_end {h₀ : Heap} {L : Addr} {s₁ : Shared} {I : Addr} {it : Obj} {rest : (Str → Option Value) → List (Addr × Obj) → Prop} {h' : Heap} {tk : Nat} {m' : Str → Option Value} {all news' : List (Addr × Obj)}
    (F : Fr h₀ L h' m') (N : News h₀ L h' all) (D : Del I it all news') (r : rest m' news') : UnrEnd h₀ L s₁ I it rest { s₁ with heap := h', toks := tk } :=
  let ⟨a, b, c⟩ := D.facts
  UnrEnd.intro F N news' (fun p hp => by
    rcases List.mem_cons.mp hp with rfl | hp
    · exact a
    · exact b p hp) c r
theorem rat_ret {h₀ h' : Heap} {L : Addr} {m : Str → Option Value} {s : Shared} {Q : Value → Shared → Prop} {news all : List (Addr × Obj)} {n d n' d' : Int} {u1 u2 c : Nat} {D : Addr} {tk : Nat}
    (hret : ∀ r news' h' tk', Fr h₀ L h' m → News h₀ L h' news' → RatPost n d news news' r → Q r { s with heap := h', toks := tk' })
    (F : Fr h₀ L h' m) (N : News h₀ L h' all) (hm : (D, tup2 n' u1 d' u2 c) ∈ all) (hs : ∀ p ∈ news, p ∈ all) (hl : AllLt D news) (e1 : n' = n) (e2 : d' = d) : Q (.ref D) { s with heap := h', toks := tk } :=
  hret _ ((D, tup2 n' u1 d' u2 c) :: news) _ _ F (fun p hp => by
    rcases List.mem_cons.mp hp with rfl | hp
    · exact N _ hm
    · exact N p (hs p hp)) (ratPost_end e1 e2 hl)
local macro_rules | `(tactic| walk_at "call ref") => `(tactic| (k_here; (with_reducible show wpAny _ _ (call (Value.ref 74) _) _ _ _); k_dflt (refine' sum_use ?k1 ?k2 ?k3 ?k4 ?k5 ?kK ?kd ?ku ?g ?hx ?hy ?i1 ?i2 ?i3 ?i4 ?hp ?hq ?hs ?_; (case k1 => k_asm); (case k2 => k_asm); (case k3 => k_asm); (case k4 => k_asm); (case k5 => k_asm); (case kK => first | exact rfl | assumption); (case kd => ktr_room); (case ku => ktr_units); (case g => assumption); (case hx => k_mem); (case hy => k_mem); (case i1 => first | exact rfl | exact num0 | exact num1); (case i2 => first | exact rfl | exact den0 | exact den1); (case i3 => first | exact rfl | exact num0 | exact num1); (case i4 => first | exact rfl | exact den0 | exact den1); (case hp => first | (with_reducible assumption) | exact Sz.zero | exact Sz.one); (case hq => first | (with_reducible assumption) | exact Sz.zero | exact Sz.one); (case hs => omega); k_whole); intro D' u1' u2' c' h' tk' F' N' l1' sz'; (try dsimp only); (try k_fold)))
local macro_rules | `(tactic| walk_at "call ref") => `(tactic| (k_here; (with_reducible show wpAny _ _ (call (Value.ref 81) _) _ _ _); k_dflt (refine' diff_use ?k1 ?k2 ?k3 ?k4 ?k5 ?kK ?kd ?ku ?g ?hx ?hy ?i1 ?i2 ?i3 ?i4 ?hp ?hq ?hs ?_; (case k1 => k_asm); (case k2 => k_asm); (case k3 => k_asm); (case k4 => k_asm); (case k5 => k_asm); (case kK => first | exact rfl | assumption); (case kd => ktr_room); (case ku => ktr_units); (case g => assumption); (case hx => k_mem); (case hy => k_mem); (case i1 => first | exact rfl | exact num0 | exact num1); (case i2 => first | exact rfl | exact den0 | exact den1); (case i3 => first | exact rfl | exact num0 | exact num1); (case i4 => first | exact rfl | exact den0 | exact den1); (case hp => first | (with_reducible assumption) | exact Sz.zero | exact Sz.one); (case hq => first | (with_reducible assumption) | exact Sz.zero | exact Sz.one); (case hs => omega); k_whole); intro D' u1' u2' c' h' tk' F' N' l1' sz'; (try dsimp only); (try k_fold)))
local macro_rules | `(tactic| walk_at "call ref") => `(tactic| (k_here; (with_reducible show wpAny _ _ (call (Value.ref 88) _) _ _ _); k_dflt (refine' prod_use ?k1 ?k2 ?k3 ?k4 ?k5 ?kK ?kd ?ku ?g ?hx ?hy ?i1 ?i2 ?i3 ?i4 ?hp ?hq ?hs ?_; (case k1 => k_asm); (case k2 => k_asm); (case k3 => k_asm); (case k4 => k_asm); (case k5 => k_asm); (case kK => first | exact rfl | assumption); (case kd => ktr_room); (case ku => ktr_units); (case g => assumption); (case hx => k_mem); (case hy => k_mem); (case i1 => first | exact rfl | exact num0 | exact num1); (case i2 => first | exact rfl | exact den0 | exact den1); (case i3 => first | exact rfl | exact num0 | exact num1); (case i4 => first | exact rfl | exact den0 | exact den1); (case hp => first | (with_reducible assumption) | exact Sz.zero | exact Sz.one); (case hq => first | (with_reducible assumption) | exact Sz.zero | exact Sz.one); (case hs => omega); k_whole); intro D' u1' u2' c' h' tk' F' N' l1' sz'; (try dsimp only); (try k_fold)))
local macro_rules | `(tactic| walk_at "call ref") => `(tactic| (k_here; (with_reducible show wpAny _ _ (call (Value.ref 95) _) _ _ _); k_dflt (refine' quot_use ?k1 ?k2 ?k3 ?k4 ?k5 ?kK ?kd ?ku ?g ?hx ?hy ?i1 ?i2 ?i3 ?i4 ?hp ?hq ?hs ?hn ?_; (case k1 => k_asm); (case k2 => k_asm); (case k3 => k_asm); (case k4 => k_asm); (case k5 => k_asm); (case kK => first | exact rfl | assumption); (case kd => ktr_room); (case ku => ktr_units); (case g => assumption); (case hx => k_mem); (case hy => k_mem); (case i1 => first | exact rfl | exact num0 | exact num1); (case i2 => first | exact rfl | exact den0 | exact den1); (case i3 => first | exact rfl | exact num0 | exact num1); (case i4 => first | exact rfl | exact den0 | exact den1); (case hp => first | (with_reducible assumption) | exact Sz.zero | exact Sz.one); (case hq => first | (with_reducible assumption) | exact Sz.zero | exact Sz.one); (case hs => omega); (case hn => assumption); k_whole); intro D' u1' u2' c' h' tk' F' N' l1' sz'; (try dsimp only); (try k_fold)))
local macro_rules | `(tactic| walk_at "call ref") => `(tactic| (k_here; (with_reducible show wpAny _ _ (call (Value.ref 102) _) _ _ _); k_dflt (refine' neg_use ?k1 ?k2 ?k3 ?k4 ?k5 ?kK ?kd ?ku ?hx ?i1 ?i2 ?hp ?_; (case k1 => k_asm); (case k2 => k_asm); (case k3 => k_asm); (case k4 => k_asm); (case k5 => k_asm); (case kK => first | exact rfl | assumption); (case kd => ktr_room); (case ku => ktr_units); (case hx => k_mem); (case i1 => first | exact rfl | exact num0 | exact num1); (case i2 => first | exact rfl | exact den0 | exact den1); (case hp => first | (with_reducible assumption) | exact Sz.zero | exact Sz.one); k_whole); intro D' u1' u2' c' h' tk' F' N' l1' sz'; (try dsimp only); (try k_fold)))
local macro_rules | `(tactic| walk_at "call ref") => `(tactic| (k_here; (with_reducible show wpAny _ _ (call (Value.ref 116) _) _ _ _); k_dflt (refine' order_use ?k1 ?k2 ?k3 ?k4 ?k5 ?kK ?kd ?ku ?hx ?hy ?i1 ?i2 ?i3 ?i4 ?hp ?hq ?hs ?_; (case k1 => k_asm); (case k2 => k_asm); (case k3 => k_asm); (case k4 => k_asm); (case k5 => k_asm); (case kK => first | exact rfl | assumption); (case kd => ktr_room); (case ku => ktr_units); (case hx => k_mem); (case hy => k_mem); (case i1 => first | exact rfl | exact num0 | exact num1); (case i2 => first | exact rfl | exact den0 | exact den1); (case i3 => first | exact rfl | exact num0 | exact num1); (case i4 => first | exact rfl | exact den0 | exact den1); (case hp => first | (with_reducible assumption) | exact Sz.zero | exact Sz.one); (case hq => first | (with_reducible assumption) | exact Sz.zero | exact Sz.one); (case hs => omega); k_whole); intro u' h' tk' F' N'; (try dsimp only); (try k_fold)))

theorem pow_small {p : Rat} (h1 : (p.den : Int) = 1) : p.num ^ (2 - (2:Int).fmod 2).toNat = (p * p).num ∧ (1 : Int) = (p * p).den := by
  have e : (2 - (2:Int).fmod 2).toNat = 2 := by decide
  rw [e]
  have hd : p.den = 1 := by omega
  constructor
  · rw [Rat.num_mul, hd]; simp [Int.pow_succ]
  · rw [Rat.den_mul, hd]; simp
theorem power_does (w : World) (mean : ExcName → Option Value) (mg mb : Str → Option Value) (G : Great mg) (news : List (Addr × Obj)) (x : Addr) (p : Rat) (e : Nat) (n1 d1 : Int) (t1 t2 t3 : Tok) (c1 : Nat)
    (i1 : n1 = p.num) (i2 : d1 = p.den) (hx : (x, tup2 n1 t1 d1 t2 c1) ∈ news) (hp : Sz e p) (hs : 2 * e + 1 ≤ 2300) :
    Does w mean mg mb 4 109 news [.ref x, .int 2 t3] (RatPost (p * p).num (p * p).den news) := by
  subst i1 i2
  intro dp un gd cn cs a ccd cl outer A₀ base h₀ L m s Q E B F X N T hk hd hu hret
  refine wpAny_call ?_
  k_dflt ktr_enter
  k_steps
  all_goals ((refine' rat_ret hret ?eF ?eN ?em ?es ?el ?_ ?_; (case eF => k_asm); (case eN => k_asm); (case em => k_mem); (case es => kcj_all); (case el => first | assumption | exact allLt_of (by assumption) | (refine' AllLt.sub ?oa ?ob; (case oa => assumption); (case ob => kcj_all)))))
  all_goals first | exact rfl | exact (pow_small (by assumption)).1 | exact (pow_small (p := p) (by assumption)).2 | rw [Rat.one_mul]
end Mine
end
section
open PySem PySem.W PyProof.Rows PySem.Calls PySem.Spec
set_option Elab.async false
set_option maxRecDepth 100000
set_option maxHeartbeats 8000000
namespace Mine
local macro_rules | `(tactic| k_mem) => `(tactic| ((repeat' (first | (with_reducible exact List.mem_cons_self ..) | ktr_member | (with_reducible refine List.mem_cons_of_mem _ ?_))); done))
local macro_rules | `(tactic| mul_fits) => `(tactic| exact Fit.mul (by assumption) (by assumption))
local macro_rules | `(tactic| k_lt $h:ident) => `(tactic| replace $h := allLt_of $h)
local macro_rules | `(tactic| k_ne) => `(tactic| ((refine neN ?_); (try dsimp only); first | (with_reducible assumption) | (refine' Ne3.ci ?oa; (case oa => with_reducible assumption)) | (refine' Ne3.di ?oa; (case oa => with_reducible assumption)) | (refine' Ne3.dc ?oa; (case oa => with_reducible assumption)) | (refine' ne_lt ?oa ?ob; (case oa => with_reducible assumption); (case ob => k_mem)) | (refine' ne_lt' ?oa ?ob; (case oa => with_reducible assumption); (case ob => k_mem)) | (refine' ne_off1 ?oa ?ob; (case oa => with_reducible assumption); (case ob => k_mem)) | (refine' ne_off1' ?oa ?ob; (case oa => with_reducible assumption); (case ob => k_mem)) | (refine' ne_off3I ?oa ?ob; (case oa => with_reducible assumption); (case ob => k_mem)) | (refine' ne_off3C ?oa ?ob; (case oa => with_reducible assumption); (case ob => k_mem)) | (refine' ne_off3D ?oa ?ob; (case oa => with_reducible assumption); (case ob => k_mem)) | (refine' ne_off3I' ?oa ?ob; (case oa => with_reducible assumption); (case ob => k_mem)) | (refine' ne_off3C' ?oa ?ob; (case oa => with_reducible assumption); (case ob => k_mem)) | (refine' ne_off3D' ?oa ?ob; (case oa => with_reducible assumption); (case ob => k_mem)) | omega))
local macro_rules | `(tactic| k_all) => `(tactic| ((repeat' (first | (with_reducible refine' List.forall_mem_cons.mpr ⟨?_, ?_⟩) | exact List.forall_mem_nil _ | (refine' ne_id ?oa; (case oa => with_reducible assumption)) | (refine' tail_lt ?oa ?ob; (case oa => with_reducible assumption); (case ob => kcj_all)) | (refine' tail_off1 ?oa ?ob; (case oa => with_reducible assumption); (case ob => kcj_all)) | (refine' tail_off3I ?oa ?ob; (case oa => with_reducible assumption); (case ob => kcj_all)) | (refine' tail_off3C ?oa ?ob; (case oa => with_reducible assumption); (case ob => kcj_all)) | (refine' tail_off3D ?oa ?ob; (case oa => with_reducible assumption); (case ob => kcj_all)) | (refine' ne_of_allLt_le ?oa ?ob; (case oa => with_reducible assumption); (case ob => omega)) | k_ne)); done))
local macro_rules | `(tactic| k_upd) => `(tactic| ((repeat' (first | (with_reducible refine' Del.head ?_) | (with_reducible refine' Del.tail ?_ ?_) | (with_reducible refine' Upd.head ?_) | (with_reducible refine' Upd.tail ?_ ?_) | (with_reducible refine' UpdF.head ?_) | (with_reducible refine' UpdF.tail ?_ ?_) | k_all | k_ne)); done))
local macro_rules | `(tactic| kcj_all) => `(tactic| ((repeat' (first | (with_reducible exact mem_same) | exact List.forall_mem_nil _ | (with_reducible refine' List.forall_mem_cons.mpr ⟨?_, ?_⟩) | (with_reducible refine' mem_step ?_) | k_mem)); done))
local macro_rules | `(tactic| walk_at "exec For Name Name cons nil") => `(tactic| (k_here; (rename Fr _ _ _ _ => lF'); (with_unfolding_all refine' For_invVF lF' ?k1 ?k2 ?_; (case k1 => exact rfl); (case k2 => exact rfl); k_whole); l_hasStore))
local macro_rules | `(tactic| walk_at "pyIter ref") => `(tactic| ((with_reducible show wpAny _ _ (pyIter (Value.ref _)) (fun it s₂ => LoopAtV _ _ _ _ _ _ _ _ _ it s₂) _ _); (rename Fr _ _ _ _ => lF'); (rename News _ _ _ _ => lN'); (with_unfolding_all refine' iter_listUnr ?hh lF' lN' ?hm ?hc ?hd ?_; (case hh => exact rfl); (case hm => k_mem); (case hc => exact rfl); (case hd => exact rfl)); clear lF' lN'; intro i' l1; (have l1' := allLt_of l1); clear l1))
local macro_rules | `(tactic| walk_at "UnrEnd") => `(tactic| (k_here; k_dflt (refine' unr_end ?F ?N ?D ?_; (case F => k_asm); (case N => k_asm); (case D => k_upd)); (try (refine ⟨by k_mem, ?_⟩)))) 
local macro_rules | `(tactic| walk_at "call ref") => `(tactic| (k_here; (with_reducible show wpAny _ _ (call (Value.ref 74) _) _ _ _); k_dflt (refine' sum_use ?k1 ?k2 ?k3 ?k4 ?k5 ?kK ?kd ?ku ?g ?hx ?hy ?i1 ?i2 ?i3 ?i4 ?hp ?hq ?hs ?_; (case k1 => k_asm); (case k2 => k_asm); (case k3 => k_asm); (case k4 => k_asm); (case k5 => k_asm); (case kK => first | exact rfl | assumption); (case kd => ktr_room); (case ku => ktr_units); (case g => assumption); (case hx => k_mem); (case hy => k_mem); (case i1 => first | exact rfl | exact num0 | exact num1); (case i2 => first | exact rfl | exact den0 | exact den1); (case i3 => first | exact rfl | exact num0 | exact num1); (case i4 => first | exact rfl | exact den0 | exact den1); (case hp => first | (with_reducible assumption) | exact Sz.zero | exact Sz.one); (case hq => first | (with_reducible assumption) | exact Sz.zero | exact Sz.one); (case hs => omega); k_whole); intro D' u1' u2' c' h' tk' F' N' l1' sz'; (try dsimp only); (try k_fold)))
local macro_rules | `(tactic| walk_at "call ref") => `(tactic| (k_here; (with_reducible show wpAny _ _ (call (Value.ref 81) _) _ _ _); k_dflt (refine' diff_use ?k1 ?k2 ?k3 ?k4 ?k5 ?kK ?kd ?ku ?g ?hx ?hy ?i1 ?i2 ?i3 ?i4 ?hp ?hq ?hs ?_; (case k1 => k_asm); (case k2 => k_asm); (case k3 => k_asm); (case k4 => k_asm); (case k5 => k_asm); (case kK => first | exact rfl | assumption); (case kd => ktr_room); (case ku => ktr_units); (case g => assumption); (case hx => k_mem); (case hy => k_mem); (case i1 => first | exact rfl | exact num0 | exact num1); (case i2 => first | exact rfl | exact den0 | exact den1); (case i3 => first | exact rfl | exact num0 | exact num1); (case i4 => first | exact rfl | exact den0 | exact den1); (case hp => first | (with_reducible assumption) | exact Sz.zero | exact Sz.one); (case hq => first | (with_reducible assumption) | exact Sz.zero | exact Sz.one); (case hs => omega); k_whole); intro D' u1' u2' c' h' tk' F' N' l1' sz'; (try dsimp only); (try k_fold)))
local macro_rules | `(tactic| walk_at "call ref") => `(tactic| (k_here; (with_reducible show wpAny _ _ (call (Value.ref 88) _) _ _ _); k_dflt (refine' prod_use ?k1 ?k2 ?k3 ?k4 ?k5 ?kK ?kd ?ku ?g ?hx ?hy ?i1 ?i2 ?i3 ?i4 ?hp ?hq ?hs ?_; (case k1 => k_asm); (case k2 => k_asm); (case k3 => k_asm); (case k4 => k_asm); (case k5 => k_asm); (case kK => first | exact rfl | assumption); (case kd => ktr_room); (case ku => ktr_units); (case g => assumption); (case hx => k_mem); (case hy => k_mem); (case i1 => first | exact rfl | exact num0 | exact num1); (case i2 => first | exact rfl | exact den0 | exact den1); (case i3 => first | exact rfl | exact num0 | exact num1); (case i4 => first | exact rfl | exact den0 | exact den1); (case hp => first | (with_reducible assumption) | exact Sz.zero | exact Sz.one); (case hq => first | (with_reducible assumption) | exact Sz.zero | exact Sz.one); (case hs => omega); k_whole); intro D' u1' u2' c' h' tk' F' N' l1' sz'; (try dsimp only); (try k_fold)))
local macro_rules | `(tactic| walk_at "call ref") => `(tactic| (k_here; (with_reducible show wpAny _ _ (call (Value.ref 95) _) _ _ _); k_dflt (refine' quot_use ?k1 ?k2 ?k3 ?k4 ?k5 ?kK ?kd ?ku ?g ?hx ?hy ?i1 ?i2 ?i3 ?i4 ?hp ?hq ?hs ?hn ?_; (case k1 => k_asm); (case k2 => k_asm); (case k3 => k_asm); (case k4 => k_asm); (case k5 => k_asm); (case kK => first | exact rfl | assumption); (case kd => ktr_room); (case ku => ktr_units); (case g => assumption); (case hx => k_mem); (case hy => k_mem); (case i1 => first | exact rfl | exact num0 | exact num1); (case i2 => first | exact rfl | exact den0 | exact den1); (case i3 => first | exact rfl | exact num0 | exact num1); (case i4 => first | exact rfl | exact den0 | exact den1); (case hp => first | (with_reducible assumption) | exact Sz.zero | exact Sz.one); (case hq => first | (with_reducible assumption) | exact Sz.zero | exact Sz.one); (case hs => omega); (case hn => assumption); k_whole); intro D' u1' u2' c' h' tk' F' N' l1' sz'; (try dsimp only); (try k_fold)))
local macro_rules | `(tactic| walk_at "call ref") => `(tactic| (k_here; (with_reducible show wpAny _ _ (call (Value.ref 102) _) _ _ _); k_dflt (refine' neg_use ?k1 ?k2 ?k3 ?k4 ?k5 ?kK ?kd ?ku ?hx ?i1 ?i2 ?hp ?_; (case k1 => k_asm); (case k2 => k_asm); (case k3 => k_asm); (case k4 => k_asm); (case k5 => k_asm); (case kK => first | exact rfl | assumption); (case kd => ktr_room); (case ku => ktr_units); (case hx => k_mem); (case i1 => first | exact rfl | exact num0 | exact num1); (case i2 => first | exact rfl | exact den0 | exact den1); (case hp => first | (with_reducible assumption) | exact Sz.zero | exact Sz.one); k_whole); intro D' u1' u2' c' h' tk' F' N' l1' sz'; (try dsimp only); (try k_fold)))
local macro_rules | `(tactic| walk_at "call ref") => `(tactic| (k_here; (with_reducible show wpAny _ _ (call (Value.ref 116) _) _ _ _); k_dflt (refine' order_use ?k1 ?k2 ?k3 ?k4 ?k5 ?kK ?kd ?ku ?hx ?hy ?i1 ?i2 ?i3 ?i4 ?hp ?hq ?hs ?_; (case k1 => k_asm); (case k2 => k_asm); (case k3 => k_asm); (case k4 => k_asm); (case k5 => k_asm); (case kK => first | exact rfl | assumption); (case kd => ktr_room); (case ku => ktr_units); (case hx => k_mem); (case hy => k_mem); (case i1 => first | exact rfl | exact num0 | exact num1); (case i2 => first | exact rfl | exact den0 | exact den1); (case i3 => first | exact rfl | exact num0 | exact num1); (case i4 => first | exact rfl | exact den0 | exact den1); (case hp => first | (with_reducible assumption) | exact Sz.zero | exact Sz.one); (case hq => first | (with_reducible assumption) | exact Sz.zero | exact Sz.one); (case hs => omega); k_whole); intro u' h' tk' F' N'; (try dsimp only); (try k_fold)))
theorem total2_does (w : World) (mean : ExcName → Option Value) (mg mb : Str → Option Value) (G : Great mg) (news : List (Addr × Obj)) (l : Addr) (c : Nat) (a1 : Addr) (p1 : Rat) (e1 : Nat) (s1 u1 : Tok) (k1 : Nat) (a2 : Addr) (p2 : Rat) (e2 : Nat) (s2 u2 : Tok) (k2 : Nat)
    (hl : (l, listObj [.ref a1, .ref a2] c) ∈ news) (h1 : (a1, tup2 p1.num s1 p1.den u1 k1) ∈ news) (z1 : Sz e1 p1) (h2 : (a2, tup2 p2.num s2 p2.den u2 k2) ∈ news) (z2 : Sz e2 p2) (hs : e1 + e2 + 3 ≤ 2300) :
    Does w mean mg mb 4 143 news [.ref l] (RatPost (p1 + p2).num (p1 + p2).den news) := by
  intro dp un gd cn cs a ccd cl outer A₀ base h₀ L m s Q E B F X N T hk hd hu hret
  refine wpAny_call ?_
  k_dflt ktr_enter
  k_steps
  all_goals (refine' rat_ret hret ?eF ?eN ?em ?es ?el ?_ ?_; (case eF => k_asm); (case eN => k_asm); (case em => k_mem); (case es => kcj_all); (case el => first | assumption | exact allLt_of (by assumption) | (refine' AllLt.sub ?oa ?ob; (case oa => assumption); (case ob => kcj_all))))
  all_goals rw [Rat.zero_add]
theorem total3_does (w : World) (mean : ExcName → Option Value) (mg mb : Str → Option Value) (G : Great mg) (news : List (Addr × Obj)) (l : Addr) (c : Nat) (a1 : Addr) (p1 : Rat) (e1 : Nat) (s1 u1 : Tok) (k1 : Nat) (a2 : Addr) (p2 : Rat) (e2 : Nat) (s2 u2 : Tok) (k2 : Nat) (a3 : Addr) (p3 : Rat) (e3 : Nat) (s3 u3 : Tok) (k3 : Nat)
    (hl : (l, listObj [.ref a1, .ref a2, .ref a3] c) ∈ news) (h1 : (a1, tup2 p1.num s1 p1.den u1 k1) ∈ news) (z1 : Sz e1 p1) (h2 : (a2, tup2 p2.num s2 p2.den u2 k2) ∈ news) (z2 : Sz e2 p2) (h3 : (a3, tup2 p3.num s3 p3.den u3 k3) ∈ news) (z3 : Sz e3 p3) (hs : e1 + e2 + e3 + 4 ≤ 2300) :
    Does w mean mg mb 4 143 news [.ref l] (RatPost (p1 + p2 + p3).num (p1 + p2 + p3).den news) := by
  intro dp un gd cn cs a ccd cl outer A₀ base h₀ L m s Q E B F X N T hk hd hu hret
  refine wpAny_call ?_
  k_dflt ktr_enter
  k_steps
  all_goals (refine' rat_ret hret ?eF ?eN ?em ?es ?el ?_ ?_; (case eF => k_asm); (case eN => k_asm); (case em => k_mem); (case es => kcj_all); (case el => first | assumption | exact allLt_of (by assumption) | (refine' AllLt.sub ?oa ?ob; (case oa => assumption); (case ob => kcj_all))))
  all_goals rw [Rat.zero_add]
end Mine
end
section
open PySem PySem.W PyProof.Rows PySem.Calls PySem.Spec
set_option Elab.async false
set_option maxRecDepth 100000
set_option maxHeartbeats 8000000
namespace Mine
local macro_rules | `(tactic| k_mem) => `(tactic| ((repeat' (first | (with_reducible exact List.mem_cons_self ..) | ktr_member | (with_reducible refine List.mem_cons_of_mem _ ?_))); done))
local macro_rules | `(tactic| mul_fits) => `(tactic| exact Fit.mul (by assumption) (by assumption))
local macro_rules | `(tactic| k_lt $h:ident) => `(tactic| replace $h := allLt_of $h)
local macro_rules | `(tactic| k_ne) => `(tactic| ((refine neN ?_); (try dsimp only); first | (with_reducible assumption) | (refine' Ne3.ci ?oa; (case oa => with_reducible assumption)) | (refine' Ne3.di ?oa; (case oa => with_reducible assumption)) | (refine' Ne3.dc ?oa; (case oa => with_reducible assumption)) | (refine' ne_lt ?oa ?ob; (case oa => with_reducible assumption); (case ob => k_mem)) | (refine' ne_lt' ?oa ?ob; (case oa => with_reducible assumption); (case ob => k_mem)) | (refine' ne_off1 ?oa ?ob; (case oa => with_reducible assumption); (case ob => k_mem)) | (refine' ne_off1' ?oa ?ob; (case oa => with_reducible assumption); (case ob => k_mem)) | (refine' ne_off3I ?oa ?ob; (case oa => with_reducible assumption); (case ob => k_mem)) | (refine' ne_off3C ?oa ?ob; (case oa => with_reducible assumption); (case ob => k_mem)) | (refine' ne_off3D ?oa ?ob; (case oa => with_reducible assumption); (case ob => k_mem)) | (refine' ne_off3I' ?oa ?ob; (case oa => with_reducible assumption); (case ob => k_mem)) | (refine' ne_off3C' ?oa ?ob; (case oa => with_reducible assumption); (case ob => k_mem)) | (refine' ne_off3D' ?oa ?ob; (case oa => with_reducible assumption); (case ob => k_mem)) | omega))
local macro_rules | `(tactic| k_all) => `(tactic| ((repeat' (first | (with_reducible refine' List.forall_mem_cons.mpr ⟨?_, ?_⟩) | exact List.forall_mem_nil _ | (refine' ne_id ?oa; (case oa => with_reducible assumption)) | (refine' tail_lt ?oa ?ob; (case oa => with_reducible assumption); (case ob => kcj_all)) | (refine' tail_off1 ?oa ?ob; (case oa => with_reducible assumption); (case ob => kcj_all)) | (refine' tail_off3I ?oa ?ob; (case oa => with_reducible assumption); (case ob => kcj_all)) | (refine' tail_off3C ?oa ?ob; (case oa => with_reducible assumption); (case ob => kcj_all)) | (refine' tail_off3D ?oa ?ob; (case oa => with_reducible assumption); (case ob => kcj_all)) | (refine' ne_of_allLt_le ?oa ?ob; (case oa => with_reducible assumption); (case ob => omega)) | k_ne)); done))
local macro_rules | `(tactic| k_upd) => `(tactic| ((repeat' (first | (with_reducible refine' Del.head ?_) | (with_reducible refine' Del.tail ?_ ?_) | (with_reducible refine' Upd.head ?_) | (with_reducible refine' Upd.tail ?_ ?_) | (with_reducible refine' UpdF.head ?_) | (with_reducible refine' UpdF.tail ?_ ?_) | k_all | k_ne)); done))
local macro_rules | `(tactic| kcj_all) => `(tactic| ((repeat' (first | (with_reducible exact mem_same) | exact List.forall_mem_nil _ | (with_reducible refine' List.forall_mem_cons.mpr ⟨?_, ?_⟩) | (with_reducible refine' mem_step ?_) | k_mem)); done))
local macro_rules | `(tactic| walk_at "exec For Name Name cons nil") => `(tactic| (k_here; (rename Fr _ _ _ _ => lF'); (with_unfolding_all refine' For_invVF lF' ?k1 ?k2 ?_; (case k1 => exact rfl); (case k2 => exact rfl); k_whole); l_hasStore))
local macro_rules | `(tactic| walk_at "pyIter ref") => `(tactic| ((with_reducible show wpAny _ _ (pyIter (Value.ref _)) (fun it s₂ => LoopAtV _ _ _ _ _ _ _ _ _ it s₂) _ _); (rename Fr _ _ _ _ => lF'); (rename News _ _ _ _ => lN'); (with_unfolding_all refine' iter_listUnr ?hh lF' lN' ?hm ?hc ?hd ?_; (case hh => exact rfl); (case hm => k_mem); (case hc => exact rfl); (case hd => exact rfl)); clear lF' lN'; intro i' l1; (have l1' := allLt_of l1); clear l1))
local macro_rules | `(tactic| walk_at "UnrEnd") => `(tactic| (k_here; k_dflt (refine' unr_end ?F ?N ?D ?_; (case F => k_asm); (case N => k_asm); (case D => k_upd)); (try (refine ⟨by k_mem, ?_⟩)))) 
local macro_rules | `(tactic| walk_at "call ref") => `(tactic| (k_here; (with_reducible show wpAny _ _ (call (Value.ref 74) _) _ _ _); k_dflt (refine' sum_use ?k1 ?k2 ?k3 ?k4 ?k5 ?kK ?kd ?ku ?g ?hx ?hy ?i1 ?i2 ?i3 ?i4 ?hp ?hq ?hs ?_; (case k1 => k_asm); (case k2 => k_asm); (case k3 => k_asm); (case k4 => k_asm); (case k5 => k_asm); (case kK => first | exact rfl | assumption); (case kd => ktr_room); (case ku => ktr_units); (case g => assumption); (case hx => k_mem); (case hy => k_mem); (case i1 => first | exact rfl | exact num0 | exact num1); (case i2 => first | exact rfl | exact den0 | exact den1); (case i3 => first | exact rfl | exact num0 | exact num1); (case i4 => first | exact rfl | exact den0 | exact den1); (case hp => first | (with_reducible assumption) | exact Sz.zero | exact Sz.one); (case hq => first | (with_reducible assumption) | exact Sz.zero | exact Sz.one); (case hs => omega); k_whole); intro D' u1' u2' c' h' tk' F' N' l1' sz'; (try dsimp only); (try k_fold)))
local macro_rules | `(tactic| walk_at "call ref") => `(tactic| (k_here; (with_reducible show wpAny _ _ (call (Value.ref 81) _) _ _ _); k_dflt (refine' diff_use ?k1 ?k2 ?k3 ?k4 ?k5 ?kK ?kd ?ku ?g ?hx ?hy ?i1 ?i2 ?i3 ?i4 ?hp ?hq ?hs ?_; (case k1 => k_asm); (case k2 => k_asm); (case k3 => k_asm); (case k4 => k_asm); (case k5 => k_asm); (case kK => first | exact rfl | assumption); (case kd => ktr_room); (case ku => ktr_units); (case g => assumption); (case hx => k_mem); (case hy => k_mem); (case i1 => first | exact rfl | exact num0 | exact num1); (case i2 => first | exact rfl | exact den0 | exact den1); (case i3 => first | exact rfl | exact num0 | exact num1); (case i4 => first | exact rfl | exact den0 | exact den1); (case hp => first | (with_reducible assumption) | exact Sz.zero | exact Sz.one); (case hq => first | (with_reducible assumption) | exact Sz.zero | exact Sz.one); (case hs => omega); k_whole); intro D' u1' u2' c' h' tk' F' N' l1' sz'; (try dsimp only); (try k_fold)))
local macro_rules | `(tactic| walk_at "call ref") => `(tactic| (k_here; (with_reducible show wpAny _ _ (call (Value.ref 88) _) _ _ _); k_dflt (refine' prod_use ?k1 ?k2 ?k3 ?k4 ?k5 ?kK ?kd ?ku ?g ?hx ?hy ?i1 ?i2 ?i3 ?i4 ?hp ?hq ?hs ?_; (case k1 => k_asm); (case k2 => k_asm); (case k3 => k_asm); (case k4 => k_asm); (case k5 => k_asm); (case kK => first | exact rfl | assumption); (case kd => ktr_room); (case ku => ktr_units); (case g => assumption); (case hx => k_mem); (case hy => k_mem); (case i1 => first | exact rfl | exact num0 | exact num1); (case i2 => first | exact rfl | exact den0 | exact den1); (case i3 => first | exact rfl | exact num0 | exact num1); (case i4 => first | exact rfl | exact den0 | exact den1); (case hp => first | (with_reducible assumption) | exact Sz.zero | exact Sz.one); (case hq => first | (with_reducible assumption) | exact Sz.zero | exact Sz.one); (case hs => omega); k_whole); intro D' u1' u2' c' h' tk' F' N' l1' sz'; (try dsimp only); (try k_fold)))
local macro_rules | `(tactic| walk_at "call ref") => `(tactic| (k_here; (with_reducible show wpAny _ _ (call (Value.ref 95) _) _ _ _); k_dflt (refine' quot_use ?k1 ?k2 ?k3 ?k4 ?k5 ?kK ?kd ?ku ?g ?hx ?hy ?i1 ?i2 ?i3 ?i4 ?hp ?hq ?hs ?hn ?_; (case k1 => k_asm); (case k2 => k_asm); (case k3 => k_asm); (case k4 => k_asm); (case k5 => k_asm); (case kK => first | exact rfl | assumption); (case kd => ktr_room); (case ku => ktr_units); (case g => assumption); (case hx => k_mem); (case hy => k_mem); (case i1 => first | exact rfl | exact num0 | exact num1); (case i2 => first | exact rfl | exact den0 | exact den1); (case i3 => first | exact rfl | exact num0 | exact num1); (case i4 => first | exact rfl | exact den0 | exact den1); (case hp => first | (with_reducible assumption) | exact Sz.zero | exact Sz.one); (case hq => first | (with_reducible assumption) | exact Sz.zero | exact Sz.one); (case hs => omega); (case hn => assumption); k_whole); intro D' u1' u2' c' h' tk' F' N' l1' sz'; (try dsimp only); (try k_fold)))
local macro_rules | `(tactic| walk_at "call ref") => `(tactic| (k_here; (with_reducible show wpAny _ _ (call (Value.ref 102) _) _ _ _); k_dflt (refine' neg_use ?k1 ?k2 ?k3 ?k4 ?k5 ?kK ?kd ?ku ?hx ?i1 ?i2 ?hp ?_; (case k1 => k_asm); (case k2 => k_asm); (case k3 => k_asm); (case k4 => k_asm); (case k5 => k_asm); (case kK => first | exact rfl | assumption); (case kd => ktr_room); (case ku => ktr_units); (case hx => k_mem); (case i1 => first | exact rfl | exact num0 | exact num1); (case i2 => first | exact rfl | exact den0 | exact den1); (case hp => first | (with_reducible assumption) | exact Sz.zero | exact Sz.one); k_whole); intro D' u1' u2' c' h' tk' F' N' l1' sz'; (try dsimp only); (try k_fold)))
local macro_rules | `(tactic| walk_at "call ref") => `(tactic| (k_here; (with_reducible show wpAny _ _ (call (Value.ref 116) _) _ _ _); k_dflt (refine' order_use ?k1 ?k2 ?k3 ?k4 ?k5 ?kK ?kd ?ku ?hx ?hy ?i1 ?i2 ?i3 ?i4 ?hp ?hq ?hs ?_; (case k1 => k_asm); (case k2 => k_asm); (case k3 => k_asm); (case k4 => k_asm); (case k5 => k_asm); (case kK => first | exact rfl | assumption); (case kd => ktr_room); (case ku => ktr_units); (case hx => k_mem); (case hy => k_mem); (case i1 => first | exact rfl | exact num0 | exact num1); (case i2 => first | exact rfl | exact den0 | exact den1); (case i3 => first | exact rfl | exact num0 | exact num1); (case i4 => first | exact rfl | exact den0 | exact den1); (case hp => first | (with_reducible assumption) | exact Sz.zero | exact Sz.one); (case hq => first | (with_reducible assumption) | exact Sz.zero | exact Sz.one); (case hs => omega); k_whole); intro u' h' tk' F' N'; (try dsimp only); (try k_fold)))
theorem item_led {prog : Program} {w : World} {A : Around} {E : Value → Shared → Prop} {s : Shared} {h₀ : Heap} {L l : Addr} {news : List (Addr × Obj)} {vs : List Value} {n : Nat} {k : Int} {u : Tok} {v : Value} {value slice : PySem.Expr} {Q : Value → Shared → Prop}
    (N : News h₀ L s.heap news) (hm : (l, listObj vs n) ∈ news) (h0 : 0 ≤ k) (hfit : k < 2 ^ 63) (hx : vs[k.toNat]? = some v) (h : Q v s)
    (hs : subscripted slice false (.ref l) (.int k u) = operate [.ref l, .int k u] (getItem (.ref l) (.int k u)) := by with_unfolding_all rfl) :
    wpAny (model prog w) A (subscriptTail value slice (.ref l) (.int k u)) Q E s :=
  have hL := News.isList N hm
  tail_any hL.typeIs slot_list_getitem.lookup (wpAny_getItem_list hL h0 hfit (by simpa using hx) h) hs
theorem getItem_led {prog : Program} {w : World} {A : Around} {E : Value → Shared → Prop} {s : Shared} {h₀ : Heap} {L l : Addr} {news : List (Addr × Obj)} {vs : List Value} {n : Nat} {k : Int} {u : Tok} {v : Value} {Q : Value → Shared → Prop}
    (N : News h₀ L s.heap news) (hm : (l, listObj vs n) ∈ news) (h0 : 0 ≤ k) (hfit : k < 2 ^ 63) (hx : vs[k.toNat]? = some v) (h : Q v s) :
    wpAny (model prog w) A (getItem (.ref l) (.int k u)) Q E s :=
  wpAny_getItem_list (News.isList N hm) h0 hfit (by simpa using hx) h
local macro_rules | `(tactic| walk_at "subscriptTail") => `(tactic| (k_here; (with_reducible show wpAny _ _ (subscriptTail _ _ (Value.ref _) (Value.int _ _)) _ _ _); k_dflt (refine' item_led ?N ?m ?a ?b ?x ?_; (case N => k_asm); (case m => k_mem); (case a => decide); (case b => decide); (case x => exact rfl); k_whole)))
local macro_rules | `(tactic| walk_at "subscriptTail Name") => `(tactic| (k_here; (with_reducible show wpAny _ _ (subscriptTail _ _ (Value.ref _) (Value.int _ _)) _ _ _); k_dflt (refine' item_led ?N ?m ?a ?b ?x ?_; (case N => k_asm); (case m => k_mem); (case a => decide); (case b => decide); (case x => exact rfl); k_whole)))
local macro_rules | `(tactic| walk_at "subscriptTail Name Constant ref int") => `(tactic| (k_here; (with_reducible show wpAny _ _ (subscriptTail _ _ (Value.ref _) (Value.int _ _)) _ _ _); k_dflt (refine' item_led ?N ?m ?a ?b ?x ?_; (case N => k_asm); (case m => k_mem); (case a => decide); (case b => decide); (case x => exact rfl); k_whole)))
local macro_rules | `(tactic| walk_at "subscriptTail Name Name ref int") => `(tactic| (k_here; (with_reducible show wpAny _ _ (subscriptTail _ _ (Value.ref _) (Value.int _ _)) _ _ _); k_dflt (refine' item_led ?N ?m ?a ?b ?x ?_; (case N => k_asm); (case m => k_mem); (case a => decide); (case b => decide); (case x => exact rfl); k_whole)))
local macro_rules | `(tactic| walk_at "subscriptTail Subscript Name Constant Name ref int") => `(tactic| (k_here; (with_reducible show wpAny _ _ (subscriptTail _ _ (Value.ref _) (Value.int _ _)) _ _ _); k_dflt (refine' item_led ?N ?m ?a ?b ?x ?_; (case N => k_asm); (case m => k_mem); (case a => decide); (case b => decide); (case x => exact rfl); k_whole)))
local macro_rules | `(tactic| walk_at "subscriptTail Subscript Name Constant Constant ref int") => `(tactic| (k_here; (with_reducible show wpAny _ _ (subscriptTail _ _ (Value.ref _) (Value.int _ _)) _ _ _); k_dflt (refine' item_led ?N ?m ?a ?b ?x ?_; (case N => k_asm); (case m => k_mem); (case a => decide); (case b => decide); (case x => exact rfl); k_whole)))
local macro_rules | `(tactic| walk_at "subscriptTail Subscript Name Name Name ref int") => `(tactic| (k_here; (with_reducible show wpAny _ _ (subscriptTail _ _ (Value.ref _) (Value.int _ _)) _ _ _); k_dflt (refine' item_led ?N ?m ?a ?b ?x ?_; (case N => k_asm); (case m => k_mem); (case a => decide); (case b => decide); (case x => exact rfl); k_whole)))
local macro_rules | `(tactic| walk_at "subscriptTail Subscript Name Name Constant ref int") => `(tactic| (k_here; (with_reducible show wpAny _ _ (subscriptTail _ _ (Value.ref _) (Value.int _ _)) _ _ _); k_dflt (refine' item_led ?N ?m ?a ?b ?x ?_; (case N => k_asm); (case m => k_mem); (case a => decide); (case b => decide); (case x => exact rfl); k_whole)))
local macro_rules | `(tactic| walk_at "getItem ref int") => `(tactic| (k_here; (with_reducible show wpAny _ _ (getItem (Value.ref _) (Value.int _ _)) _ _ _); k_dflt (refine' getItem_led ?N ?m ?a ?b ?x ?_; (case N => k_asm); (case m => k_mem); (case a => decide); (case b => decide); (case x => exact rfl); k_whole)))
def absR (p : Rat) : Rat := if ordR p 0 < 0 then -p else p
theorem absR_neg {p : Rat} (h : ordR p 0 < 0) : -p = absR p := by unfold absR; rw [if_pos h]
theorem absR_pos {p : Rat} (h : ¬ ordR p 0 < 0) : p = absR p := by unfold absR; rw [if_neg h]
theorem Sz.abs {e : Nat} {p : Rat} (h : Sz e p) : Sz e (absR p) := by unfold absR; split; exact h.neg; exact h
def HasPost (p : Rat) (news news' : List (Addr × Obj)) (r : Value) : Prop := ∃ D u1 u2 c', r = .ref D ∧ news' = (D, tup2 p.num u1 p.den u2 c') :: news
theorem has_ret {h₀ h' : Heap} {L : Addr} {m : Str → Option Value} {s : Shared} {Q : Value → Shared → Prop} {news all : List (Addr × Obj)} {p p' : Rat} {u1 u2 c : Nat} {D : Addr} {tk : Nat}
    (hret : ∀ r news' h' tk', Fr h₀ L h' m → News h₀ L h' news' → HasPost p news news' r → Q r { s with heap := h', toks := tk' })
    (F : Fr h₀ L h' m) (N : News h₀ L h' all) (hm : (D, tup2 p'.num u1 p'.den u2 c) ∈ all) (hs : ∀ p ∈ news, p ∈ all) (e1 : p' = p) : Q (.ref D) { s with heap := h', toks := tk } := by
  subst e1
  exact hret _ ((D, tup2 p'.num u1 p'.den u2 c) :: news) _ _ F (fun p hp => by
    rcases List.mem_cons.mp hp with rfl | hp
    · exact N _ hm
    · exact N p (hs p hp)) ⟨_, _, _, _, rfl, rfl⟩
theorem size_does (w : World) (mean : ExcName → Option Value) (mg mb : Str → Option Value) (news : List (Addr × Obj)) (x : Addr) (p : Rat) (e : Nat) (t1 t2 : Tok) (c1 : Nat)
    (hx : (x, tup2 p.num t1 p.den t2 c1) ∈ news) (hp : Sz e p) (hs : e + 1 ≤ 2300) :
    Does w mean mg mb 3 155 news [.ref x] (HasPost (absR p) news) := by
  intro dp un gd cn cs a ccd cl outer A₀ base h₀ L m s Q E B F X N T hk hd hu hret
  refine wpAny_call ?_
  k_dflt ktr_enter
  k_steps
  all_goals (refine' has_ret hret ?eF ?eN ?em ?es ?_; (case eF => k_asm); (case eN => k_asm); (case em => k_mem); (case es => kcj_all))
  all_goals first | exact absR_neg (by assumption) | exact absR_pos (by assumption)
section
variable {w : World} {mean : ExcName → Option Value} {mg mb : Str → Option Value} {news : List (Addr × Obj)}
  {dp un : Nat} {gd : Option (List Code)} {cn : Str} {cs : Scope} {a : Addr} {ccd : Value} {cl : List (Str × Addr)} {outer : List Env} {A₀ : Around} {base h₀ : Heap} {L : Addr} {m : Str → Option Value} {s : Shared} {Q E : Value → Shared → Prop}
theorem size_use {x : Addr} {p : Rat} {e : Nat} {t1 t2 : Tok} {c1 : Nat} (B : Below A₀ base outer h₀) (F : Fr h₀ L s.heap m) (X : (hd.heap_39 w.params).In h₀) (N : News h₀ L s.heap news) (T : Top hd.view_39 LO mean mg mb h₀) (hk : cs.kind = .function) (hd : dp + 3 < recursionLimit) (hu : un + 8 * 3 < cLine) (hx : (x, tup2 p.num t1 p.den t2 c1) ∈ news) (hp : Sz e p) (hs : e + 1 ≤ 2300)
    (ret : ∀ D u1 u2 c h' tk', Fr h₀ L h' m → News h₀ L h' ((D, tup2 (absR p).num u1 (absR p).den u2 c) :: news) → Sz e (absR p) → Q (.ref D) { s with heap := h', toks := tk' }) :
    wpAny (model PR w) (ktrTop dp un gd cn cs L a ccd cl outer) (call (.ref 155) [.ref x]) Q E s :=
  size_does w mean mg mb news x p e t1 t2 c1 hx hp hs dp un gd cn cs a ccd cl outer A₀ base h₀ L m s Q E B F X N T hk hd hu (fun r news' h' tk' F' N' ⟨D, u1, u2, c, e1, e2⟩ => by subst e1; subst e2; exact ret D u1 u2 c h' tk' F' N' hp.abs)
end
theorem bp1_does (w : World) (mean : ExcName → Option Value) (mg mb : Str → Option Value) (news : List (Addr × Obj)) (l r x : Addr) (c c2 : Nat)
    (hl : (l, listObj [.ref r] c) ∈ news) (hr : (r, listObj [.ref x] c2) ∈ news) :
    Does w mean mg mb 1 148 news [.ref l] (fun news' v => v = .ref x ∧ news' = news) := by
  intro dp un gd cn cs a ccd cl outer A₀ base h₀ L m s Q E B F X N T hk hd hu hret
  refine wpAny_call ?_
  k_dflt (refine' code_defC (binds := [(PySem.Str.ofString "rows", .ref l)]) ?k1 ?k2 ?k3 ?k4 ?k5 ?kA ?kF ?kK ?k6 ?k7 ?k8 ?k9 ?kB ?kD ?_ ?c2 ?c3 ?c4; (case kA => exact rfl); (case kF => exact rfl); (case kK => assumption); (case k1 => k_asm); (case k2 => k_asm); (case k3 => k_asm); (case k4 => k_asm); (case k5 => k_asm); (case k6 => k_is); (case k7 => k_is); (case k8 => ktr_room); (case k9 => exact BindsTo.of_eq rfl); (case kB => exact rfl); (case kD => decide +kernel); (case c2 => exact rfl); (case c3 => exact rfl); (case c4 => exact rfl); k_whole)
  intro g' L' h' tk' cells' FG' F' N' Y' B' X' T' l1
  have l2 := allLt_of l1
  have l3 : AllLt (L' + 1) _ := AllLt.mono l2 (Nat.le_succ _)
  have l4 : AllLt (L' + 1 + 1) _ := AllLt.mono l3 (Nat.le_succ _)
  k_cells Y'
  (try simp only [List.cons_append, List.nil_append] at N')
  (try dsimp only)
  (try k_fold)
  k_steps
  all_goals (exact hret _ _ _ _ (by k_asm) (cb_drop (by k_asm) (by kcj_all)) ⟨rfl, rfl⟩)
end Mine
end
section
open PySem PySem.W PyProof.Rows PySem.Calls PySem.Spec
set_option Elab.async false
set_option maxRecDepth 100000
set_option maxHeartbeats 8000000
namespace Mine
section
variable {w : World} {mean : ExcName → Option Value} {mg mb : Str → Option Value} {news : List (Addr × Obj)}
  {dp un : Nat} {gd : Option (List Code)} {cn : Str} {cs : Scope} {a : Addr} {ccd : Value} {cl : List (Str × Addr)} {outer : List Env} {A₀ : Around} {base h₀ : Heap} {L : Addr} {m : Str → Option Value} {s : Shared} {Q E : Value → Shared → Prop}
theorem bp1_use {l r x : Addr} {c c2 : Nat} (B : Below A₀ base outer h₀) (F : Fr h₀ L s.heap m) (X : (hd.heap_39 w.params).In h₀) (N : News h₀ L s.heap news) (T : Top hd.view_39 LO mean mg mb h₀) (hk : cs.kind = .function) (hd : dp + 1 < recursionLimit) (hu : un + 8 * 1 < cLine) (hl : (l, listObj [.ref r] c) ∈ news) (hr : (r, listObj [.ref x] c2) ∈ news)
    (ret : ∀ h' tk', Fr h₀ L h' m → News h₀ L h' news → Q (.ref x) { s with heap := h', toks := tk' }) :
    wpAny (model PR w) (ktrTop dp un gd cn cs L a ccd cl outer) (call (.ref 148) [.ref l]) Q E s :=
  bp1_does w mean mg mb news l r x c c2 hl hr dp un gd cn cs a ccd cl outer A₀ base h₀ L m s Q E B F X N T hk hd hu (fun r news' h' tk' F' N' ⟨e1, e2⟩ => by subst e1; subst e2; exact ret h' tk' F' N')
theorem total2_use {l : Addr} {c : Nat} {a1 : Addr} {p1 : Rat} {e1 : Nat} {s1 u1 : Tok} {k1 : Nat} {a2 : Addr} {p2 : Rat} {e2 : Nat} {s2 u2 : Tok} {k2 : Nat} (B : Below A₀ base outer h₀) (F : Fr h₀ L s.heap m) (X : (hd.heap_39 w.params).In h₀) (N : News h₀ L s.heap news) (T : Top hd.view_39 LO mean mg mb h₀) (hk : cs.kind = .function) (hd : dp + 4 < recursionLimit) (hu : un + 8 * 4 < cLine) (G : Great mg) (hl : (l, listObj [.ref a1, .ref a2] c) ∈ news) (h1 : (a1, tup2 p1.num s1 p1.den u1 k1) ∈ news) (h2 : (a2, tup2 p2.num s2 p2.den u2 k2) ∈ news) (z1 : Sz e1 p1) (z2 : Sz e2 p2) (hs : e1 + e2 + 3 ≤ 2300)
    (ret : ∀ D u1 u2 c h' tk', Fr h₀ L h' m → News h₀ L h' ((D, tup2 (p1 + p2).num u1 (p1 + p2).den u2 c) :: news) → AllLt D news → Sz (e1 + e2 + 1) (p1 + p2) → Q (.ref D) { s with heap := h', toks := tk' }) :
    wpAny (model PR w) (ktrTop dp un gd cn cs L a ccd cl outer) (call (.ref 143) [.ref l]) Q E s :=
  use_rat (total2_does w mean mg mb G news l c a1 p1 e1 s1 u1 k1 a2 p2 e2 s2 u2 k2 hl h1 z1 h2 z2 hs) B F X N T hk hd hu fun D u1 u2 c h' tk' F' N' l => ret D u1 u2 c h' tk' F' N' l (Sz.add z1 z2)
theorem total3_use {l : Addr} {c : Nat} {a1 : Addr} {p1 : Rat} {e1 : Nat} {s1 u1 : Tok} {k1 : Nat} {a2 : Addr} {p2 : Rat} {e2 : Nat} {s2 u2 : Tok} {k2 : Nat} {a3 : Addr} {p3 : Rat} {e3 : Nat} {s3 u3 : Tok} {k3 : Nat} (B : Below A₀ base outer h₀) (F : Fr h₀ L s.heap m) (X : (hd.heap_39 w.params).In h₀) (N : News h₀ L s.heap news) (T : Top hd.view_39 LO mean mg mb h₀) (hk : cs.kind = .function) (hd : dp + 4 < recursionLimit) (hu : un + 8 * 4 < cLine) (G : Great mg) (hl : (l, listObj [.ref a1, .ref a2, .ref a3] c) ∈ news) (h1 : (a1, tup2 p1.num s1 p1.den u1 k1) ∈ news) (h2 : (a2, tup2 p2.num s2 p2.den u2 k2) ∈ news) (h3 : (a3, tup2 p3.num s3 p3.den u3 k3) ∈ news) (z1 : Sz e1 p1) (z2 : Sz e2 p2) (z3 : Sz e3 p3) (hs : e1 + e2 + e3 + 4 ≤ 2300)
    (ret : ∀ D u1 u2 c h' tk', Fr h₀ L h' m → News h₀ L h' ((D, tup2 (p1 + p2 + p3).num u1 (p1 + p2 + p3).den u2 c) :: news) → AllLt D news → Sz (e1 + e2 + 1 + e3 + 1) (p1 + p2 + p3) → Q (.ref D) { s with heap := h', toks := tk' }) :
    wpAny (model PR w) (ktrTop dp un gd cn cs L a ccd cl outer) (call (.ref 143) [.ref l]) Q E s :=
  use_rat (total3_does w mean mg mb G news l c a1 p1 e1 s1 u1 k1 a2 p2 e2 s2 u2 k2 a3 p3 e3 s3 u3 k3 hl h1 z1 h2 z2 h3 z3 hs) B F X N T hk hd hu fun D u1 u2 c h' tk' F' N' l => ret D u1 u2 c h' tk' F' N' l (Sz.add (Sz.add z1 z2) z3)
end
local macro_rules | `(tactic| k_mem) => `(tactic| ((repeat' (first | (with_reducible exact List.mem_cons_self ..) | ktr_member | (with_reducible refine List.mem_cons_of_mem _ ?_))); done))
local macro_rules | `(tactic| mul_fits) => `(tactic| exact Fit.mul (by assumption) (by assumption))
local macro_rules | `(tactic| k_lt $h:ident) => `(tactic| replace $h := allLt_of $h)
local macro_rules | `(tactic| k_ne) => `(tactic| ((refine neN ?_); (try dsimp only); first | (with_reducible assumption) | (refine' Ne3.ci ?oa; (case oa => with_reducible assumption)) | (refine' Ne3.di ?oa; (case oa => with_reducible assumption)) | (refine' Ne3.dc ?oa; (case oa => with_reducible assumption)) | (refine' ne_lt ?oa ?ob; (case oa => with_reducible assumption); (case ob => k_mem)) | (refine' ne_lt' ?oa ?ob; (case oa => with_reducible assumption); (case ob => k_mem)) | (refine' ne_off1 ?oa ?ob; (case oa => with_reducible assumption); (case ob => k_mem)) | (refine' ne_off1' ?oa ?ob; (case oa => with_reducible assumption); (case ob => k_mem)) | (refine' ne_off3I ?oa ?ob; (case oa => with_reducible assumption); (case ob => k_mem)) | (refine' ne_off3C ?oa ?ob; (case oa => with_reducible assumption); (case ob => k_mem)) | (refine' ne_off3D ?oa ?ob; (case oa => with_reducible assumption); (case ob => k_mem)) | (refine' ne_off3I' ?oa ?ob; (case oa => with_reducible assumption); (case ob => k_mem)) | (refine' ne_off3C' ?oa ?ob; (case oa => with_reducible assumption); (case ob => k_mem)) | (refine' ne_off3D' ?oa ?ob; (case oa => with_reducible assumption); (case ob => k_mem)) | omega))
local macro_rules | `(tactic| k_all) => `(tactic| ((repeat' (first | (with_reducible refine' List.forall_mem_cons.mpr ⟨?_, ?_⟩) | exact List.forall_mem_nil _ | (refine' ne_id ?oa; (case oa => with_reducible assumption)) | (refine' tail_lt ?oa ?ob; (case oa => with_reducible assumption); (case ob => kcj_all)) | (refine' tail_off1 ?oa ?ob; (case oa => with_reducible assumption); (case ob => kcj_all)) | (refine' tail_off3I ?oa ?ob; (case oa => with_reducible assumption); (case ob => kcj_all)) | (refine' tail_off3C ?oa ?ob; (case oa => with_reducible assumption); (case ob => kcj_all)) | (refine' tail_off3D ?oa ?ob; (case oa => with_reducible assumption); (case ob => kcj_all)) | (refine' ne_of_allLt_le ?oa ?ob; (case oa => with_reducible assumption); (case ob => omega)) | k_ne)); done))
local macro_rules | `(tactic| k_upd) => `(tactic| ((repeat' (first | (with_reducible refine' Del.head ?_) | (with_reducible refine' Del.tail ?_ ?_) | (with_reducible refine' Upd.head ?_) | (with_reducible refine' Upd.tail ?_ ?_) | (with_reducible refine' UpdF.head ?_) | (with_reducible refine' UpdF.tail ?_ ?_) | k_all | k_ne)); done))
local macro_rules | `(tactic| kcj_all) => `(tactic| ((repeat' (first | (with_reducible exact mem_same) | exact List.forall_mem_nil _ | (with_reducible refine' List.forall_mem_cons.mpr ⟨?_, ?_⟩) | (with_reducible refine' mem_step ?_) | k_mem)); done))
local macro_rules | `(tactic| walk_at "exec For Name Name cons nil") => `(tactic| (k_here; (rename Fr _ _ _ _ => lF'); (with_unfolding_all refine' For_invVF lF' ?k1 ?k2 ?_; (case k1 => exact rfl); (case k2 => exact rfl); k_whole); l_hasStore))
local macro_rules | `(tactic| walk_at "pyIter ref") => `(tactic| ((with_reducible show wpAny _ _ (pyIter (Value.ref _)) (fun it s₂ => LoopAtV _ _ _ _ _ _ _ _ _ it s₂) _ _); (rename Fr _ _ _ _ => lF'); (rename News _ _ _ _ => lN'); (with_unfolding_all refine' iter_listUnr ?hh lF' lN' ?hm ?hc ?hd ?_; (case hh => exact rfl); (case hm => k_mem); (case hc => exact rfl); (case hd => exact rfl)); clear lF' lN'; intro i' l1; (have l1' := allLt_of l1); clear l1))
local macro_rules | `(tactic| walk_at "UnrEnd") => `(tactic| (k_here; k_dflt (refine' unr_end ?F ?N ?D ?_; (case F => k_asm); (case N => k_asm); (case D => k_upd)); (try (refine ⟨by k_mem, ?_⟩)))) 
local macro_rules | `(tactic| walk_at "exec For Name Call cons nil") => `(tactic| (k_here; k_dflt (refine For_C ?_)))
local macro_rules | `(tactic| walk_at "pyIter ref") => `(tactic| ((with_reducible show wpAny _ _ (pyIter (Value.ref _)) (LoopC _ _ _ _ _ _ _ _ _) _ _); (rename Fr _ _ _ _ => lF'); (rename News _ _ _ _ => lN'); (rename IsRange _ _ _ _ _ _ _ _ => lR'); (with_unfolding_all refine' iter_rangeC ?hh lR' ?hs ?hn ?hz lF' lN' ?hE ?_; (case hh => exact rfl); (case hs => first | decide | rfl); (case hn => first | exact Eq.trans (b := [0, 1]) rfl rfl | exact Eq.trans (b := [0, 1, 2]) rfl rfl | exact Eq.trans (b := [1, 2]) rfl rfl | exact Eq.trans (b := [1]) rfl rfl | exact Eq.trans (b := [2]) rfl rfl | exact Eq.trans (b := [0]) rfl rfl | exact Eq.trans (b := ([] : List Int)) rfl rfl | exact Eq.trans (b := [0, 1, 2, 3]) rfl rfl); (case hz => decide); (case hE => first | passes_own | with_unfolding_all passes_own)); clear lF' lN' lR'; intro i' l1; (have l1' := allLt_of l1); clear l1))
local macro_rules | `(tactic| walk_at "TurnsC") => `(tactic| (with_unfolding_all first | (refine TurnsC.succ (fun it' t' h' tk' F' N' => ?_)) | (refine TurnsC.zero (fun h' tk' F' N' => ?_))))
local macro_rules | `(tactic| walk_at "CompRest") => `(tactic| (with_unfolding_all first
  | (refine LCg.CompRest.succ ?_; intro v' I' oI' C' oC' D' m' h' tk' E' hv' hC' hx' F' N' off' ne'; (first | lcg_open hv' | (obtain ⟨t9', hv9'⟩ := hv'; subst hv9')); (replace ne' := Ne3.mk' ne'))
  | refine LCg.CompRest.zero ?_))
local macro_rules | `(tactic| walk_at "CompEnd") => `(tactic| (k_here; k_dflt (refine' comp_keep ?F ?N ?O ?K ?h1 ?h2 ?h3 ?hs ?S ?_; (case F => k_asm); (case N => k_asm); (case O => with_reducible assumption); (case K => k_mem); (case h1 => k_ne); (case h2 => k_ne); (case h3 => k_ne); (case hs => ((repeat' (first | (with_reducible exact mem_same) | (with_reducible refine' mem_step ?_))); done)); (case S => lcg_src))))
local macro_rules | `(tactic| walk_at "FinE") => `(tactic| ((unfold LCg.FinE); intro D' h' tk' F' N' o1'; (try simp only [List.nil_append, List.cons_append] at N'); (try dsimp only)))
local macro_rules | `(tactic| walk_at "FinA") => `(tactic| ((unfold LCg.FinA); intro D' h' tk' F' N' o1'; (try simp only [List.nil_append, List.cons_append] at N'); (try dsimp only)))
local macro_rules | `(tactic| walk_at "UnrEnd") => `(tactic| (k_here; k_dflt (refine' unr_keep (o := tup2 _ _ _ _ _) ?F ?N ?hs ?K ?h1 ?off ?_; (case F => k_asm); (case N => k_asm); (case hs => ((repeat' (first | (with_reducible exact mem_same) | (with_reducible refine' mem_step ?_))); done)); (case K => k_mem); (case h1 => k_ne); (case off => k_all)); (try (refine ⟨by k_mem, ?_⟩))))
local macro_rules | `(tactic| walk_at "call ref") => `(tactic| (k_here; (with_reducible show wpAny _ _ (call (Value.ref 74) _) _ _ _); k_dflt (refine' sum_use ?k1 ?k2 ?k3 ?k4 ?k5 ?kK ?kd ?ku ?g ?hx ?hy ?i1 ?i2 ?i3 ?i4 ?hp ?hq ?hs ?_; (case k1 => k_asm); (case k2 => k_asm); (case k3 => k_asm); (case k4 => k_asm); (case k5 => k_asm); (case kK => first | exact rfl | assumption); (case kd => ktr_room); (case ku => ktr_units); (case g => assumption); (case hx => k_mem); (case hy => k_mem); (case i1 => first | exact rfl | exact num0 | exact num1); (case i2 => first | exact rfl | exact den0 | exact den1); (case i3 => first | exact rfl | exact num0 | exact num1); (case i4 => first | exact rfl | exact den0 | exact den1); (case hp => first | (with_reducible assumption) | exact Sz.zero | exact Sz.one); (case hq => first | (with_reducible assumption) | exact Sz.zero | exact Sz.one); (case hs => omega); k_whole); intro D' u1' u2' c' h' tk' F' N' l1' sz'; (try dsimp only); (try k_fold)))
local macro_rules | `(tactic| walk_at "call ref") => `(tactic| (k_here; (with_reducible show wpAny _ _ (call (Value.ref 81) _) _ _ _); k_dflt (refine' diff_use ?k1 ?k2 ?k3 ?k4 ?k5 ?kK ?kd ?ku ?g ?hx ?hy ?i1 ?i2 ?i3 ?i4 ?hp ?hq ?hs ?_; (case k1 => k_asm); (case k2 => k_asm); (case k3 => k_asm); (case k4 => k_asm); (case k5 => k_asm); (case kK => first | exact rfl | assumption); (case kd => ktr_room); (case ku => ktr_units); (case g => assumption); (case hx => k_mem); (case hy => k_mem); (case i1 => first | exact rfl | exact num0 | exact num1); (case i2 => first | exact rfl | exact den0 | exact den1); (case i3 => first | exact rfl | exact num0 | exact num1); (case i4 => first | exact rfl | exact den0 | exact den1); (case hp => first | (with_reducible assumption) | exact Sz.zero | exact Sz.one); (case hq => first | (with_reducible assumption) | exact Sz.zero | exact Sz.one); (case hs => omega); k_whole); intro D' u1' u2' c' h' tk' F' N' l1' sz'; (try dsimp only); (try k_fold)))
local macro_rules | `(tactic| walk_at "call ref") => `(tactic| (k_here; (with_reducible show wpAny _ _ (call (Value.ref 88) _) _ _ _); k_dflt (refine' prod_use ?k1 ?k2 ?k3 ?k4 ?k5 ?kK ?kd ?ku ?g ?hx ?hy ?i1 ?i2 ?i3 ?i4 ?hp ?hq ?hs ?_; (case k1 => k_asm); (case k2 => k_asm); (case k3 => k_asm); (case k4 => k_asm); (case k5 => k_asm); (case kK => first | exact rfl | assumption); (case kd => ktr_room); (case ku => ktr_units); (case g => assumption); (case hx => k_mem); (case hy => k_mem); (case i1 => first | exact rfl | exact num0 | exact num1); (case i2 => first | exact rfl | exact den0 | exact den1); (case i3 => first | exact rfl | exact num0 | exact num1); (case i4 => first | exact rfl | exact den0 | exact den1); (case hp => first | (with_reducible assumption) | exact Sz.zero | exact Sz.one); (case hq => first | (with_reducible assumption) | exact Sz.zero | exact Sz.one); (case hs => omega); k_whole); intro D' u1' u2' c' h' tk' F' N' l1' sz'; (try dsimp only); (try k_fold)))
local macro_rules | `(tactic| walk_at "call ref") => `(tactic| (k_here; (with_reducible show wpAny _ _ (call (Value.ref 95) _) _ _ _); k_dflt (refine' quot_use ?k1 ?k2 ?k3 ?k4 ?k5 ?kK ?kd ?ku ?g ?hx ?hy ?i1 ?i2 ?i3 ?i4 ?hp ?hq ?hs ?hn ?_; (case k1 => k_asm); (case k2 => k_asm); (case k3 => k_asm); (case k4 => k_asm); (case k5 => k_asm); (case kK => first | exact rfl | assumption); (case kd => ktr_room); (case ku => ktr_units); (case g => assumption); (case hx => k_mem); (case hy => k_mem); (case i1 => first | exact rfl | exact num0 | exact num1); (case i2 => first | exact rfl | exact den0 | exact den1); (case i3 => first | exact rfl | exact num0 | exact num1); (case i4 => first | exact rfl | exact den0 | exact den1); (case hp => first | (with_reducible assumption) | exact Sz.zero | exact Sz.one); (case hq => first | (with_reducible assumption) | exact Sz.zero | exact Sz.one); (case hs => omega); (case hn => assumption); k_whole); intro D' u1' u2' c' h' tk' F' N' l1' sz'; (try dsimp only); (try k_fold)))
local macro_rules | `(tactic| walk_at "call ref") => `(tactic| (k_here; (with_reducible show wpAny _ _ (call (Value.ref 102) _) _ _ _); k_dflt (refine' neg_use ?k1 ?k2 ?k3 ?k4 ?k5 ?kK ?kd ?ku ?hx ?i1 ?i2 ?hp ?_; (case k1 => k_asm); (case k2 => k_asm); (case k3 => k_asm); (case k4 => k_asm); (case k5 => k_asm); (case kK => first | exact rfl | assumption); (case kd => ktr_room); (case ku => ktr_units); (case hx => k_mem); (case i1 => first | exact rfl | exact num0 | exact num1); (case i2 => first | exact rfl | exact den0 | exact den1); (case hp => first | (with_reducible assumption) | exact Sz.zero | exact Sz.one); k_whole); intro D' u1' u2' c' h' tk' F' N' l1' sz'; (try dsimp only); (try k_fold)))
local macro_rules | `(tactic| walk_at "call ref") => `(tactic| (k_here; (with_reducible show wpAny _ _ (call (Value.ref 116) _) _ _ _); k_dflt (refine' order_use ?k1 ?k2 ?k3 ?k4 ?k5 ?kK ?kd ?ku ?hx ?hy ?i1 ?i2 ?i3 ?i4 ?hp ?hq ?hs ?_; (case k1 => k_asm); (case k2 => k_asm); (case k3 => k_asm); (case k4 => k_asm); (case k5 => k_asm); (case kK => first | exact rfl | assumption); (case kd => ktr_room); (case ku => ktr_units); (case hx => k_mem); (case hy => k_mem); (case i1 => first | exact rfl | exact num0 | exact num1); (case i2 => first | exact rfl | exact den0 | exact den1); (case i3 => first | exact rfl | exact num0 | exact num1); (case i4 => first | exact rfl | exact den0 | exact den1); (case hp => first | (with_reducible assumption) | exact Sz.zero | exact Sz.one); (case hq => first | (with_reducible assumption) | exact Sz.zero | exact Sz.one); (case hs => omega); k_whole); intro u' h' tk' F' N'; (try dsimp only); (try k_fold)))
local macro_rules | `(tactic| walk_at "subscriptTail") => `(tactic| (k_here; (with_reducible show wpAny _ _ (subscriptTail _ _ (Value.ref _) (Value.int _ _)) _ _ _); k_dflt (refine' item_led ?N ?m ?a ?b ?x ?_; (case N => k_asm); (case m => k_mem); (case a => decide); (case b => decide); (case x => exact rfl); k_whole)))
local macro_rules | `(tactic| walk_at "subscriptTail Name") => `(tactic| (k_here; (with_reducible show wpAny _ _ (subscriptTail _ _ (Value.ref _) (Value.int _ _)) _ _ _); k_dflt (refine' item_led ?N ?m ?a ?b ?x ?_; (case N => k_asm); (case m => k_mem); (case a => decide); (case b => decide); (case x => exact rfl); k_whole)))
local macro_rules | `(tactic| walk_at "subscriptTail Name Constant ref int") => `(tactic| (k_here; (with_reducible show wpAny _ _ (subscriptTail _ _ (Value.ref _) (Value.int _ _)) _ _ _); k_dflt (refine' item_led ?N ?m ?a ?b ?x ?_; (case N => k_asm); (case m => k_mem); (case a => decide); (case b => decide); (case x => exact rfl); k_whole)))
local macro_rules | `(tactic| walk_at "subscriptTail Name Name ref int") => `(tactic| (k_here; (with_reducible show wpAny _ _ (subscriptTail _ _ (Value.ref _) (Value.int _ _)) _ _ _); k_dflt (refine' item_led ?N ?m ?a ?b ?x ?_; (case N => k_asm); (case m => k_mem); (case a => decide); (case b => decide); (case x => exact rfl); k_whole)))
local macro_rules | `(tactic| walk_at "subscriptTail Subscript Name Constant Name ref int") => `(tactic| (k_here; (with_reducible show wpAny _ _ (subscriptTail _ _ (Value.ref _) (Value.int _ _)) _ _ _); k_dflt (refine' item_led ?N ?m ?a ?b ?x ?_; (case N => k_asm); (case m => k_mem); (case a => decide); (case b => decide); (case x => exact rfl); k_whole)))
local macro_rules | `(tactic| walk_at "subscriptTail Subscript Name Constant Constant ref int") => `(tactic| (k_here; (with_reducible show wpAny _ _ (subscriptTail _ _ (Value.ref _) (Value.int _ _)) _ _ _); k_dflt (refine' item_led ?N ?m ?a ?b ?x ?_; (case N => k_asm); (case m => k_mem); (case a => decide); (case b => decide); (case x => exact rfl); k_whole)))
local macro_rules | `(tactic| walk_at "subscriptTail Subscript Name Name Name ref int") => `(tactic| (k_here; (with_reducible show wpAny _ _ (subscriptTail _ _ (Value.ref _) (Value.int _ _)) _ _ _); k_dflt (refine' item_led ?N ?m ?a ?b ?x ?_; (case N => k_asm); (case m => k_mem); (case a => decide); (case b => decide); (case x => exact rfl); k_whole)))
local macro_rules | `(tactic| walk_at "subscriptTail Subscript Name Name Constant ref int") => `(tactic| (k_here; (with_reducible show wpAny _ _ (subscriptTail _ _ (Value.ref _) (Value.int _ _)) _ _ _); k_dflt (refine' item_led ?N ?m ?a ?b ?x ?_; (case N => k_asm); (case m => k_mem); (case a => decide); (case b => decide); (case x => exact rfl); k_whole)))
local macro_rules | `(tactic| walk_at "getItem ref int") => `(tactic| (k_here; (with_reducible show wpAny _ _ (getItem (Value.ref _) (Value.int _ _)) _ _ _); k_dflt (refine' getItem_led ?N ?m ?a ?b ?x ?_; (case N => k_asm); (case m => k_mem); (case a => decide); (case b => decide); (case x => exact rfl); k_whole)))
local macro_rules | `(tactic| walk_at "callWith builtin:list.append cons nil") => `(tactic| refine callWith_method1 ?_)
local macro_rules | `(tactic| walk_at "callWith builtin:len nil nil") => `(tactic| refine callWith_builtin1 ?_)
local macro_rules | `(tactic| walk_at "callWith builtin:len cons nil") => `(tactic| refine callWith_builtin1 ?_)
local macro_rules | `(tactic| walk_at "exec Assign cons ListComp") => `(tactic| (k_here; k_dflt (refine LCg.Assign_ListComp_U (F₀ := by k_asm) (by rfl) (by with_unfolding_all rfl) (by with_unfolding_all rfl) (by decide) (by rfl) (by decide) (by rfl) (by rfl) (by rfl) ?_)))
local macro_rules | `(tactic| walk_at "CompSrc") => `(tactic| (k_here; k_dflt (refine' LCg.CompSrc.ledger ?hh ?F ?N ?hm ?hz ?_; (case hh => exact rfl); (case F => k_asm); (case N => k_asm); (case hm => k_mem); (case hz => first | exact Nat.le_of_ble_eq_true rfl | size_fits)); intro g'; lcg_lit))
local macro_rules | `(tactic| walk_at "call builtin:list.append cons nil") => `(tactic| (k_here; k_dflt (refine' append_K ?k1 ?k2 ?k3 ?_ ?z; (case k1 => k_asm); (case k2 => k_asm); (case k3 => k_upd); (case z => size_fits); k_whole); intro h' F' N'; (try k_sweep)))
local macro_rules | `(tactic| walk_at "eval Name") => `(tactic| (k_here; (with_reducible show wpAny _ _ (eval (PySem.Expr.Name _ _) (envOfC _ _ _ _ _)) _ _ _); k_dflt (first | (refine' nameX_L ?F ?v ?_ ?a ?b; (case a => rfl); (case b => rfl); (case F => k_asm); (case v => rfl); k_whole) | (refine' nameX_C ?N ?c ?m ?d ?_ ?a ?b; (case a => rfl); (case b => rfl); (case N => k_asm); (case c => rfl); (case m => k_mem); (case d => with_reducible assumption); k_whole) | (refine' nameX_K ?F ?X ?T ?e ?_ ?a ?b; (case a => rfl); (case b => rfl); (case F => k_asm); (case X => k_asm); (case T => k_asm); (case e => k_is); k_whole))))
local macro_rules | `(tactic| walk_at "call ref") => `(tactic| (k_here; (with_reducible show wpAny _ _ (call (Value.ref 143) _) _ _ _); k_dflt (refine' total2_use ?k1 ?k2 ?k3 ?k4 ?k5 ?kK ?kd ?ku ?g ?hl ?h1 ?h2 ?z1 ?z2 ?hs ?_; (case k1 => k_asm); (case k2 => k_asm); (case k3 => k_asm); (case k4 => k_asm); (case k5 => k_asm); (case kK => first | exact rfl | assumption); (case kd => ktr_room); (case ku => ktr_units); (case g => assumption); (case hl => k_mem); (case h1 => k_mem); (case h2 => k_mem); (case z1 => with_reducible assumption); (case z2 => with_reducible assumption); (case hs => omega); k_whole); intro D' u1' u2' c' h' tk' F' N' l1' sz'; (try dsimp only); (try k_fold)))
local macro_rules | `(tactic| walk_at "call ref") => `(tactic| (k_here; (with_reducible show wpAny _ _ (call (Value.ref 143) _) _ _ _); k_dflt (refine' total3_use ?k1 ?k2 ?k3 ?k4 ?k5 ?kK ?kd ?ku ?g ?hl ?h1 ?h2 ?h3 ?z1 ?z2 ?z3 ?hs ?_; (case k1 => k_asm); (case k2 => k_asm); (case k3 => k_asm); (case k4 => k_asm); (case k5 => k_asm); (case kK => first | exact rfl | assumption); (case kd => ktr_room); (case ku => ktr_units); (case g => assumption); (case hl => k_mem); (case h1 => k_mem); (case h2 => k_mem); (case h3 => k_mem); (case z1 => with_reducible assumption); (case z2 => with_reducible assumption); (case z3 => with_reducible assumption); (case hs => omega); k_whole); intro D' u1' u2' c' h' tk' F' N' l1' sz'; (try dsimp only); (try k_fold)))
local macro_rules | `(tactic| walk_at "call ref") => `(tactic| (k_here; (with_reducible show wpAny _ _ (call (Value.ref 148) _) _ _ _); k_dflt (refine' bp1_use ?k1 ?k2 ?k3 ?k4 ?k5 ?kK ?kd ?ku ?hx ?hy ?_; (case k1 => k_asm); (case k2 => k_asm); (case k3 => k_asm); (case k4 => k_asm); (case k5 => k_asm); (case kK => first | exact rfl | assumption); (case kd => ktr_room); (case ku => ktr_units); (case hx => k_mem); (case hy => k_mem); k_whole); intro h' tk' F' N'; (try dsimp only); (try k_fold)))
theorem bp2_does (w : World) (mean : ExcName → Option Value) (mg mb : Str → Option Value) (G : Great mg) (news : List (Addr × Obj)) (e : Nat) (l : Addr) (c : Nat) (r1 : Addr) (c1 : Nat) (r2 : Addr) (c2 : Nat) (a11 : Addr) (p11 : Rat) (s11 u11 : Tok) (k11 : Nat) (a12 : Addr) (p12 : Rat) (s12 u12 : Tok) (k12 : Nat) (a21 : Addr) (p21 : Rat) (s21 u21 : Tok) (k21 : Nat) (a22 : Addr) (p22 : Rat) (s22 u22 : Tok) (k22 : Nat)
    (hl : (l, listObj [.ref r1, .ref r2] c) ∈ news) (hr1 : (r1, listObj [.ref a11, .ref a12] c1) ∈ news) (hr2 : (r2, listObj [.ref a21, .ref a22] c2) ∈ news) (h11 : (a11, tup2 p11.num s11 p11.den u11 k11) ∈ news) (z11 : Sz e p11) (h12 : (a12, tup2 p12.num s12 p12.den u12 k12) ∈ news) (z12 : Sz e p12) (h21 : (a21, tup2 p21.num s21 p21.den u21 k21) ∈ news) (z21 : Sz e p21) (h22 : (a22, tup2 p22.num s22 p22.den u22 k22) ∈ news) (z22 : Sz e p22) (hs : 4 * e + 20 ≤ 2300) :
    Does w mean mg mb 5 148 news [.ref l] (RatPost (p11 * p22 + -(p12 * p21)).num (p11 * p22 + -(p12 * p21)).den news) := by
  intro dp un gd cn cs a ccd cl outer A₀ base h₀ L m s Q E B F X N T hk hd hu hret
  refine wpAny_call ?_
  k_dflt (refine' code_defC (binds := [(PySem.Str.ofString "rows", .ref l)]) ?k1 ?k2 ?k3 ?k4 ?k5 ?kA ?kF ?kK ?k6 ?k7 ?k8 ?k9 ?kB ?kD ?_ ?c2 ?c3 ?c4; (case kA => exact rfl); (case kF => exact rfl); (case kK => assumption); (case k1 => k_asm); (case k2 => k_asm); (case k3 => k_asm); (case k4 => k_asm); (case k5 => k_asm); (case k6 => k_is); (case k7 => k_is); (case k8 => ktr_room); (case k9 => exact BindsTo.of_eq rfl); (case kB => exact rfl); (case kD => decide +kernel); (case c2 => exact rfl); (case c3 => exact rfl); (case c4 => exact rfl); k_whole)
  intro g' L' h' tk' cells' FG' F' N' Y' B' X' T' l1
  have l2 := allLt_of l1
  have l3 : AllLt (L' + 1) _ := AllLt.mono l2 (Nat.le_succ _)
  have l4 : AllLt (L' + 1 + 1) _ := AllLt.mono l3 (Nat.le_succ _)
  k_cells Y'
  (try simp only [List.cons_append, List.nil_append] at N')
  (try dsimp only)
  (try k_fold)
  k_steps
  all_goals (refine' rat_ret hret ?eF ?eN ?em ?es ?el ?_ ?_; (case eF => k_asm); (case eN => k_asm); (case em => k_mem); (case es => kcj_all); (case el => first | assumption | exact allLt_of (by assumption) | (refine' AllLt.sub ?oa ?ob; (case oa => assumption); (case ob => kcj_all))))
  all_goals exact rfl
end Mine
end
section
open PySem PySem.W PyProof.Rows PySem.Calls PySem.Spec
set_option Elab.async false
set_option maxRecDepth 100000
set_option maxHeartbeats 8000000
namespace Mine
section
variable {w : World} {mean : ExcName → Option Value} {mg mb : Str → Option Value} {news : List (Addr × Obj)}
  {dp un : Nat} {gd : Option (List Code)} {cn : Str} {cs : Scope} {a : Addr} {ccd : Value} {cl : List (Str × Addr)} {outer : List Env} {A₀ : Around} {base h₀ : Heap} {L : Addr} {m : Str → Option Value} {s : Shared} {Q E : Value → Shared → Prop}
theorem bp2_use {e : Nat} {l : Addr} {c : Nat} {r1 : Addr} {c1 : Nat} {r2 : Addr} {c2 : Nat} {a11 : Addr} {p11 : Rat} {s11 u11 : Tok} {k11 : Nat} {a12 : Addr} {p12 : Rat} {s12 u12 : Tok} {k12 : Nat} {a21 : Addr} {p21 : Rat} {s21 u21 : Tok} {k21 : Nat} {a22 : Addr} {p22 : Rat} {s22 u22 : Tok} {k22 : Nat} (B : Below A₀ base outer h₀) (F : Fr h₀ L s.heap m) (X : (hd.heap_39 w.params).In h₀) (N : News h₀ L s.heap news) (T : Top hd.view_39 LO mean mg mb h₀) (hk : cs.kind = .function) (hd : dp + 5 < recursionLimit) (hu : un + 8 * 5 < cLine) (G : Great mg) (hl : (l, listObj [.ref r1, .ref r2] c) ∈ news) (hr1 : (r1, listObj [.ref a11, .ref a12] c1) ∈ news) (hr2 : (r2, listObj [.ref a21, .ref a22] c2) ∈ news) (h11 : (a11, tup2 p11.num s11 p11.den u11 k11) ∈ news) (h12 : (a12, tup2 p12.num s12 p12.den u12 k12) ∈ news) (h21 : (a21, tup2 p21.num s21 p21.den u21 k21) ∈ news) (h22 : (a22, tup2 p22.num s22 p22.den u22 k22) ∈ news) (z11 : Sz e p11) (z12 : Sz e p12) (z21 : Sz e p21) (z22 : Sz e p22) (hs : 4 * e + 20 ≤ 2300)
    (ret : ∀ D u1 u2 c h' tk', Fr h₀ L h' m → News h₀ L h' ((D, tup2 (p11 * p22 + -(p12 * p21)).num u1 (p11 * p22 + -(p12 * p21)).den u2 c) :: news) → AllLt D news → Sz (4 * e + 1) (p11 * p22 + -(p12 * p21)) → Q (.ref D) { s with heap := h', toks := tk' }) :
    wpAny (model PR w) (ktrTop dp un gd cn cs L a ccd cl outer) (call (.ref 148) [.ref l]) Q E s :=
  use_rat (bp2_does w mean mg mb G news e l c r1 c1 r2 c2 a11 p11 s11 u11 k11 a12 p12 s12 u12 k12 a21 p21 s21 u21 k21 a22 p22 s22 u22 k22 hl hr1 hr2 h11 z11 h12 z12 h21 z21 h22 z22 hs) B F X N T hk hd hu fun D u1 u2 c h' tk' F' N' l => ret D u1 u2 c h' tk' F' N' l ((Sz.add (Sz.mul z11 z22) (Sz.neg (Sz.mul z12 z21))).mono (by omega))
end
local macro_rules | `(tactic| k_mem) => `(tactic| ((repeat' (first | (with_reducible exact List.mem_cons_self ..) | ktr_member | (with_reducible refine List.mem_cons_of_mem _ ?_))); done))
local macro_rules | `(tactic| mul_fits) => `(tactic| exact Fit.mul (by assumption) (by assumption))
local macro_rules | `(tactic| k_lt $h:ident) => `(tactic| replace $h := allLt_of $h)
local macro_rules | `(tactic| k_ne) => `(tactic| ((refine neN ?_); (try dsimp only); first | (with_reducible assumption) | (refine' Ne3.ci ?oa; (case oa => with_reducible assumption)) | (refine' Ne3.di ?oa; (case oa => with_reducible assumption)) | (refine' Ne3.dc ?oa; (case oa => with_reducible assumption)) | (refine' ne_lt ?oa ?ob; (case oa => with_reducible assumption); (case ob => k_mem)) | (refine' ne_lt' ?oa ?ob; (case oa => with_reducible assumption); (case ob => k_mem)) | (refine' ne_off1 ?oa ?ob; (case oa => with_reducible assumption); (case ob => k_mem)) | (refine' ne_off1' ?oa ?ob; (case oa => with_reducible assumption); (case ob => k_mem)) | (refine' ne_off3I ?oa ?ob; (case oa => with_reducible assumption); (case ob => k_mem)) | (refine' ne_off3C ?oa ?ob; (case oa => with_reducible assumption); (case ob => k_mem)) | (refine' ne_off3D ?oa ?ob; (case oa => with_reducible assumption); (case ob => k_mem)) | (refine' ne_off3I' ?oa ?ob; (case oa => with_reducible assumption); (case ob => k_mem)) | (refine' ne_off3C' ?oa ?ob; (case oa => with_reducible assumption); (case ob => k_mem)) | (refine' ne_off3D' ?oa ?ob; (case oa => with_reducible assumption); (case ob => k_mem)) | omega))
local macro_rules | `(tactic| k_all) => `(tactic| ((repeat' (first | (with_reducible refine' List.forall_mem_cons.mpr ⟨?_, ?_⟩) | exact List.forall_mem_nil _ | (refine' ne_id ?oa; (case oa => with_reducible assumption)) | (refine' tail_lt ?oa ?ob; (case oa => with_reducible assumption); (case ob => kcj_all)) | (refine' tail_off1 ?oa ?ob; (case oa => with_reducible assumption); (case ob => kcj_all)) | (refine' tail_off3I ?oa ?ob; (case oa => with_reducible assumption); (case ob => kcj_all)) | (refine' tail_off3C ?oa ?ob; (case oa => with_reducible assumption); (case ob => kcj_all)) | (refine' tail_off3D ?oa ?ob; (case oa => with_reducible assumption); (case ob => kcj_all)) | (refine' ne_of_allLt_le ?oa ?ob; (case oa => with_reducible assumption); (case ob => omega)) | k_ne)); done))
local macro_rules | `(tactic| k_upd) => `(tactic| ((repeat' (first | (with_reducible refine' Del.head ?_) | (with_reducible refine' Del.tail ?_ ?_) | (with_reducible refine' Upd.head ?_) | (with_reducible refine' Upd.tail ?_ ?_) | (with_reducible refine' UpdF.head ?_) | (with_reducible refine' UpdF.tail ?_ ?_) | k_all | k_ne)); done))
local macro_rules | `(tactic| kcj_all) => `(tactic| ((repeat' (first | (with_reducible exact mem_same) | exact List.forall_mem_nil _ | (with_reducible refine' List.forall_mem_cons.mpr ⟨?_, ?_⟩) | (with_reducible refine' mem_step ?_) | k_mem)); done))
local macro_rules | `(tactic| walk_at "exec For Name Name cons nil") => `(tactic| (k_here; (rename Fr _ _ _ _ => lF'); (with_unfolding_all refine' For_invVF lF' ?k1 ?k2 ?_; (case k1 => exact rfl); (case k2 => exact rfl); k_whole); l_hasStore))
local macro_rules | `(tactic| walk_at "pyIter ref") => `(tactic| ((with_reducible show wpAny _ _ (pyIter (Value.ref _)) (fun it s₂ => LoopAtV _ _ _ _ _ _ _ _ _ it s₂) _ _); (rename Fr _ _ _ _ => lF'); (rename News _ _ _ _ => lN'); (with_unfolding_all refine' iter_listUnr ?hh lF' lN' ?hm ?hc ?hd ?_; (case hh => exact rfl); (case hm => k_mem); (case hc => exact rfl); (case hd => exact rfl)); clear lF' lN'; intro i' l1; (have l1' := allLt_of l1); clear l1))
local macro_rules | `(tactic| walk_at "UnrEnd") => `(tactic| (k_here; k_dflt (refine' unr_end ?F ?N ?D ?_; (case F => k_asm); (case N => k_asm); (case D => k_upd)); (try (refine ⟨by k_mem, ?_⟩)))) 
local macro_rules | `(tactic| walk_at "exec For Name Call cons nil") => `(tactic| (k_here; k_dflt (refine For_C ?_)))
local macro_rules | `(tactic| walk_at "pyIter ref") => `(tactic| ((with_reducible show wpAny _ _ (pyIter (Value.ref _)) (LoopC _ _ _ _ _ _ _ _ _) _ _); (rename Fr _ _ _ _ => lF'); (rename News _ _ _ _ => lN'); (rename IsRange _ _ _ _ _ _ _ _ => lR'); (with_unfolding_all refine' iter_rangeC ?hh lR' ?hs ?hn ?hz lF' lN' ?hE ?_; (case hh => exact rfl); (case hs => first | decide | rfl); (case hn => first | exact Eq.trans (b := [0, 1]) rfl rfl | exact Eq.trans (b := [0, 1, 2]) rfl rfl | exact Eq.trans (b := [1, 2]) rfl rfl | exact Eq.trans (b := [1]) rfl rfl | exact Eq.trans (b := [2]) rfl rfl | exact Eq.trans (b := [0]) rfl rfl | exact Eq.trans (b := ([] : List Int)) rfl rfl | exact Eq.trans (b := [0, 1, 2, 3]) rfl rfl); (case hz => decide); (case hE => first | passes_own | with_unfolding_all passes_own)); clear lF' lN' lR'; intro i' l1; (have l1' := allLt_of l1); clear l1))
local macro_rules | `(tactic| walk_at "TurnsC") => `(tactic| (with_unfolding_all first | (refine TurnsC.succ (fun it' t' h' tk' F' N' => ?_)) | (refine TurnsC.zero (fun h' tk' F' N' => ?_))))
local macro_rules | `(tactic| walk_at "CompRest") => `(tactic| (with_unfolding_all first
  | (refine LCg.CompRest.succ ?_; intro v' I' oI' C' oC' D' m' h' tk' E' hv' hC' hx' F' N' off' ne'; (first | lcg_open hv' | (obtain ⟨t9', hv9'⟩ := hv'; subst hv9')); (replace ne' := Ne3.mk' ne'))
  | refine LCg.CompRest.zero ?_))
local macro_rules | `(tactic| walk_at "CompEnd") => `(tactic| (k_here; k_dflt (refine' comp_keep ?F ?N ?O ?K ?h1 ?h2 ?h3 ?hs ?S ?_; (case F => k_asm); (case N => k_asm); (case O => with_reducible assumption); (case K => k_mem); (case h1 => k_ne); (case h2 => k_ne); (case h3 => k_ne); (case hs => ((repeat' (first | (with_reducible exact mem_same) | (with_reducible refine' mem_step ?_))); done)); (case S => lcg_src))))
local macro_rules | `(tactic| walk_at "FinE") => `(tactic| ((unfold LCg.FinE); intro D' h' tk' F' N' o1'; (try simp only [List.nil_append, List.cons_append] at N'); (try dsimp only)))
local macro_rules | `(tactic| walk_at "FinA") => `(tactic| ((unfold LCg.FinA); intro D' h' tk' F' N' o1'; (try simp only [List.nil_append, List.cons_append] at N'); (try dsimp only)))
local macro_rules | `(tactic| walk_at "UnrEnd") => `(tactic| (k_here; k_dflt (refine' unr_keep (o := tup2 _ _ _ _ _) ?F ?N ?hs ?K ?h1 ?off ?_; (case F => k_asm); (case N => k_asm); (case hs => ((repeat' (first | (with_reducible exact mem_same) | (with_reducible refine' mem_step ?_))); done)); (case K => k_mem); (case h1 => k_ne); (case off => k_all)); (try (refine ⟨by k_mem, ?_⟩))))
local macro_rules | `(tactic| walk_at "call ref") => `(tactic| (k_here; (with_reducible show wpAny _ _ (call (Value.ref 74) _) _ _ _); k_dflt (refine' sum_use ?k1 ?k2 ?k3 ?k4 ?k5 ?kK ?kd ?ku ?g ?hx ?hy ?i1 ?i2 ?i3 ?i4 ?hp ?hq ?hs ?_; (case k1 => k_asm); (case k2 => k_asm); (case k3 => k_asm); (case k4 => k_asm); (case k5 => k_asm); (case kK => first | exact rfl | assumption); (case kd => ktr_room); (case ku => ktr_units); (case g => assumption); (case hx => k_mem); (case hy => k_mem); (case i1 => first | exact rfl | exact num0 | exact num1); (case i2 => first | exact rfl | exact den0 | exact den1); (case i3 => first | exact rfl | exact num0 | exact num1); (case i4 => first | exact rfl | exact den0 | exact den1); (case hp => first | (with_reducible assumption) | exact Sz.zero | exact Sz.one); (case hq => first | (with_reducible assumption) | exact Sz.zero | exact Sz.one); (case hs => omega); k_whole); intro D' u1' u2' c' h' tk' F' N' l1' sz'; (try dsimp only); (try k_fold)))
local macro_rules | `(tactic| walk_at "call ref") => `(tactic| (k_here; (with_reducible show wpAny _ _ (call (Value.ref 81) _) _ _ _); k_dflt (refine' diff_use ?k1 ?k2 ?k3 ?k4 ?k5 ?kK ?kd ?ku ?g ?hx ?hy ?i1 ?i2 ?i3 ?i4 ?hp ?hq ?hs ?_; (case k1 => k_asm); (case k2 => k_asm); (case k3 => k_asm); (case k4 => k_asm); (case k5 => k_asm); (case kK => first | exact rfl | assumption); (case kd => ktr_room); (case ku => ktr_units); (case g => assumption); (case hx => k_mem); (case hy => k_mem); (case i1 => first | exact rfl | exact num0 | exact num1); (case i2 => first | exact rfl | exact den0 | exact den1); (case i3 => first | exact rfl | exact num0 | exact num1); (case i4 => first | exact rfl | exact den0 | exact den1); (case hp => first | (with_reducible assumption) | exact Sz.zero | exact Sz.one); (case hq => first | (with_reducible assumption) | exact Sz.zero | exact Sz.one); (case hs => omega); k_whole); intro D' u1' u2' c' h' tk' F' N' l1' sz'; (try dsimp only); (try k_fold)))
local macro_rules | `(tactic| walk_at "call ref") => `(tactic| (k_here; (with_reducible show wpAny _ _ (call (Value.ref 88) _) _ _ _); k_dflt (refine' prod_use ?k1 ?k2 ?k3 ?k4 ?k5 ?kK ?kd ?ku ?g ?hx ?hy ?i1 ?i2 ?i3 ?i4 ?hp ?hq ?hs ?_; (case k1 => k_asm); (case k2 => k_asm); (case k3 => k_asm); (case k4 => k_asm); (case k5 => k_asm); (case kK => first | exact rfl | assumption); (case kd => ktr_room); (case ku => ktr_units); (case g => assumption); (case hx => k_mem); (case hy => k_mem); (case i1 => first | exact rfl | exact num0 | exact num1); (case i2 => first | exact rfl | exact den0 | exact den1); (case i3 => first | exact rfl | exact num0 | exact num1); (case i4 => first | exact rfl | exact den0 | exact den1); (case hp => first | (with_reducible assumption) | exact Sz.zero | exact Sz.one); (case hq => first | (with_reducible assumption) | exact Sz.zero | exact Sz.one); (case hs => omega); k_whole); intro D' u1' u2' c' h' tk' F' N' l1' sz'; (try dsimp only); (try k_fold)))
local macro_rules | `(tactic| walk_at "call ref") => `(tactic| (k_here; (with_reducible show wpAny _ _ (call (Value.ref 95) _) _ _ _); k_dflt (refine' quot_use ?k1 ?k2 ?k3 ?k4 ?k5 ?kK ?kd ?ku ?g ?hx ?hy ?i1 ?i2 ?i3 ?i4 ?hp ?hq ?hs ?hn ?_; (case k1 => k_asm); (case k2 => k_asm); (case k3 => k_asm); (case k4 => k_asm); (case k5 => k_asm); (case kK => first | exact rfl | assumption); (case kd => ktr_room); (case ku => ktr_units); (case g => assumption); (case hx => k_mem); (case hy => k_mem); (case i1 => first | exact rfl | exact num0 | exact num1); (case i2 => first | exact rfl | exact den0 | exact den1); (case i3 => first | exact rfl | exact num0 | exact num1); (case i4 => first | exact rfl | exact den0 | exact den1); (case hp => first | (with_reducible assumption) | exact Sz.zero | exact Sz.one); (case hq => first | (with_reducible assumption) | exact Sz.zero | exact Sz.one); (case hs => omega); (case hn => assumption); k_whole); intro D' u1' u2' c' h' tk' F' N' l1' sz'; (try dsimp only); (try k_fold)))
local macro_rules | `(tactic| walk_at "call ref") => `(tactic| (k_here; (with_reducible show wpAny _ _ (call (Value.ref 102) _) _ _ _); k_dflt (refine' neg_use ?k1 ?k2 ?k3 ?k4 ?k5 ?kK ?kd ?ku ?hx ?i1 ?i2 ?hp ?_; (case k1 => k_asm); (case k2 => k_asm); (case k3 => k_asm); (case k4 => k_asm); (case k5 => k_asm); (case kK => first | exact rfl | assumption); (case kd => ktr_room); (case ku => ktr_units); (case hx => k_mem); (case i1 => first | exact rfl | exact num0 | exact num1); (case i2 => first | exact rfl | exact den0 | exact den1); (case hp => first | (with_reducible assumption) | exact Sz.zero | exact Sz.one); k_whole); intro D' u1' u2' c' h' tk' F' N' l1' sz'; (try dsimp only); (try k_fold)))
local macro_rules | `(tactic| walk_at "call ref") => `(tactic| (k_here; (with_reducible show wpAny _ _ (call (Value.ref 116) _) _ _ _); k_dflt (refine' order_use ?k1 ?k2 ?k3 ?k4 ?k5 ?kK ?kd ?ku ?hx ?hy ?i1 ?i2 ?i3 ?i4 ?hp ?hq ?hs ?_; (case k1 => k_asm); (case k2 => k_asm); (case k3 => k_asm); (case k4 => k_asm); (case k5 => k_asm); (case kK => first | exact rfl | assumption); (case kd => ktr_room); (case ku => ktr_units); (case hx => k_mem); (case hy => k_mem); (case i1 => first | exact rfl | exact num0 | exact num1); (case i2 => first | exact rfl | exact den0 | exact den1); (case i3 => first | exact rfl | exact num0 | exact num1); (case i4 => first | exact rfl | exact den0 | exact den1); (case hp => first | (with_reducible assumption) | exact Sz.zero | exact Sz.one); (case hq => first | (with_reducible assumption) | exact Sz.zero | exact Sz.one); (case hs => omega); k_whole); intro u' h' tk' F' N'; (try dsimp only); (try k_fold)))
local macro_rules | `(tactic| walk_at "subscriptTail") => `(tactic| (k_here; (with_reducible show wpAny _ _ (subscriptTail _ _ (Value.ref _) (Value.int _ _)) _ _ _); k_dflt (refine' item_led ?N ?m ?a ?b ?x ?_; (case N => k_asm); (case m => k_mem); (case a => decide); (case b => decide); (case x => exact rfl); k_whole)))
local macro_rules | `(tactic| walk_at "subscriptTail Name") => `(tactic| (k_here; (with_reducible show wpAny _ _ (subscriptTail _ _ (Value.ref _) (Value.int _ _)) _ _ _); k_dflt (refine' item_led ?N ?m ?a ?b ?x ?_; (case N => k_asm); (case m => k_mem); (case a => decide); (case b => decide); (case x => exact rfl); k_whole)))
local macro_rules | `(tactic| walk_at "subscriptTail Name Constant ref int") => `(tactic| (k_here; (with_reducible show wpAny _ _ (subscriptTail _ _ (Value.ref _) (Value.int _ _)) _ _ _); k_dflt (refine' item_led ?N ?m ?a ?b ?x ?_; (case N => k_asm); (case m => k_mem); (case a => decide); (case b => decide); (case x => exact rfl); k_whole)))
local macro_rules | `(tactic| walk_at "subscriptTail Name Name ref int") => `(tactic| (k_here; (with_reducible show wpAny _ _ (subscriptTail _ _ (Value.ref _) (Value.int _ _)) _ _ _); k_dflt (refine' item_led ?N ?m ?a ?b ?x ?_; (case N => k_asm); (case m => k_mem); (case a => decide); (case b => decide); (case x => exact rfl); k_whole)))
local macro_rules | `(tactic| walk_at "subscriptTail Subscript Name Constant Name ref int") => `(tactic| (k_here; (with_reducible show wpAny _ _ (subscriptTail _ _ (Value.ref _) (Value.int _ _)) _ _ _); k_dflt (refine' item_led ?N ?m ?a ?b ?x ?_; (case N => k_asm); (case m => k_mem); (case a => decide); (case b => decide); (case x => exact rfl); k_whole)))
local macro_rules | `(tactic| walk_at "subscriptTail Subscript Name Constant Constant ref int") => `(tactic| (k_here; (with_reducible show wpAny _ _ (subscriptTail _ _ (Value.ref _) (Value.int _ _)) _ _ _); k_dflt (refine' item_led ?N ?m ?a ?b ?x ?_; (case N => k_asm); (case m => k_mem); (case a => decide); (case b => decide); (case x => exact rfl); k_whole)))
local macro_rules | `(tactic| walk_at "subscriptTail Subscript Name Name Name ref int") => `(tactic| (k_here; (with_reducible show wpAny _ _ (subscriptTail _ _ (Value.ref _) (Value.int _ _)) _ _ _); k_dflt (refine' item_led ?N ?m ?a ?b ?x ?_; (case N => k_asm); (case m => k_mem); (case a => decide); (case b => decide); (case x => exact rfl); k_whole)))
local macro_rules | `(tactic| walk_at "subscriptTail Subscript Name Name Constant ref int") => `(tactic| (k_here; (with_reducible show wpAny _ _ (subscriptTail _ _ (Value.ref _) (Value.int _ _)) _ _ _); k_dflt (refine' item_led ?N ?m ?a ?b ?x ?_; (case N => k_asm); (case m => k_mem); (case a => decide); (case b => decide); (case x => exact rfl); k_whole)))
local macro_rules | `(tactic| walk_at "getItem ref int") => `(tactic| (k_here; (with_reducible show wpAny _ _ (getItem (Value.ref _) (Value.int _ _)) _ _ _); k_dflt (refine' getItem_led ?N ?m ?a ?b ?x ?_; (case N => k_asm); (case m => k_mem); (case a => decide); (case b => decide); (case x => exact rfl); k_whole)))
local macro_rules | `(tactic| walk_at "callWith builtin:list.append cons nil") => `(tactic| refine callWith_method1 ?_)
local macro_rules | `(tactic| walk_at "callWith builtin:len nil nil") => `(tactic| refine callWith_builtin1 ?_)
local macro_rules | `(tactic| walk_at "callWith builtin:len cons nil") => `(tactic| refine callWith_builtin1 ?_)
local macro_rules | `(tactic| walk_at "exec Assign cons ListComp") => `(tactic| (k_here; k_dflt (refine LCg.Assign_ListComp_U (F₀ := by k_asm) (by rfl) (by with_unfolding_all rfl) (by with_unfolding_all rfl) (by decide) (by rfl) (by decide) (by rfl) (by rfl) (by rfl) ?_)))
local macro_rules | `(tactic| walk_at "CompSrc") => `(tactic| (k_here; k_dflt (refine' LCg.CompSrc.ledger ?hh ?F ?N ?hm ?hz ?_; (case hh => exact rfl); (case F => k_asm); (case N => k_asm); (case hm => k_mem); (case hz => first | exact Nat.le_of_ble_eq_true rfl | size_fits)); intro g'; lcg_lit))
local macro_rules | `(tactic| walk_at "call builtin:list.append cons nil") => `(tactic| (k_here; k_dflt (refine' append_K ?k1 ?k2 ?k3 ?_ ?z; (case k1 => k_asm); (case k2 => k_asm); (case k3 => k_upd); (case z => size_fits); k_whole); intro h' F' N'; (try k_sweep)))
local macro_rules | `(tactic| walk_at "eval Name") => `(tactic| (k_here; (with_reducible show wpAny _ _ (eval (PySem.Expr.Name _ _) (envOfC _ _ _ _ _)) _ _ _); k_dflt (first | (refine' nameX_L ?F ?v ?_ ?a ?b; (case a => rfl); (case b => rfl); (case F => k_asm); (case v => rfl); k_whole) | (refine' nameX_C ?N ?c ?m ?d ?_ ?a ?b; (case a => rfl); (case b => rfl); (case N => k_asm); (case c => rfl); (case m => k_mem); (case d => with_reducible assumption); k_whole) | (refine' nameX_K ?F ?X ?T ?e ?_ ?a ?b; (case a => rfl); (case b => rfl); (case F => k_asm); (case X => k_asm); (case T => k_asm); (case e => k_is); k_whole))))
local macro_rules | `(tactic| walk_at "call ref") => `(tactic| (k_here; (with_reducible show wpAny _ _ (call (Value.ref 143) _) _ _ _); k_dflt (refine' total2_use ?k1 ?k2 ?k3 ?k4 ?k5 ?kK ?kd ?ku ?g ?hl ?h1 ?h2 ?z1 ?z2 ?hs ?_; (case k1 => k_asm); (case k2 => k_asm); (case k3 => k_asm); (case k4 => k_asm); (case k5 => k_asm); (case kK => first | exact rfl | assumption); (case kd => ktr_room); (case ku => ktr_units); (case g => assumption); (case hl => k_mem); (case h1 => k_mem); (case h2 => k_mem); (case z1 => with_reducible assumption); (case z2 => with_reducible assumption); (case hs => omega); k_whole); intro D' u1' u2' c' h' tk' F' N' l1' sz'; (try dsimp only); (try k_fold)))
local macro_rules | `(tactic| walk_at "call ref") => `(tactic| (k_here; (with_reducible show wpAny _ _ (call (Value.ref 143) _) _ _ _); k_dflt (refine' total3_use ?k1 ?k2 ?k3 ?k4 ?k5 ?kK ?kd ?ku ?g ?hl ?h1 ?h2 ?h3 ?z1 ?z2 ?z3 ?hs ?_; (case k1 => k_asm); (case k2 => k_asm); (case k3 => k_asm); (case k4 => k_asm); (case k5 => k_asm); (case kK => first | exact rfl | assumption); (case kd => ktr_room); (case ku => ktr_units); (case g => assumption); (case hl => k_mem); (case h1 => k_mem); (case h2 => k_mem); (case h3 => k_mem); (case z1 => with_reducible assumption); (case z2 => with_reducible assumption); (case z3 => with_reducible assumption); (case hs => omega); k_whole); intro D' u1' u2' c' h' tk' F' N' l1' sz'; (try dsimp only); (try k_fold)))
local macro_rules | `(tactic| walk_at "call ref") => `(tactic| (k_here; (with_reducible show wpAny _ _ (call (Value.ref 148) _) _ _ _); k_dflt (refine' bp1_use ?k1 ?k2 ?k3 ?k4 ?k5 ?kK ?kd ?ku ?hx ?hy ?_; (case k1 => k_asm); (case k2 => k_asm); (case k3 => k_asm); (case k4 => k_asm); (case k5 => k_asm); (case kK => first | exact rfl | assumption); (case kd => ktr_room); (case ku => ktr_units); (case hx => k_mem); (case hy => k_mem); k_whole); intro h' tk' F' N'; (try dsimp only); (try k_fold)))
local macro_rules | `(tactic| walk_at "call ref") => `(tactic| (k_here; (with_reducible show wpAny _ _ (call (Value.ref 148) _) _ _ _); k_dflt (refine' bp2_use ?k1 ?k2 ?k3 ?k4 ?k5 ?kK ?kd ?ku ?g ?hl ?hr1 ?hr2 ?h11 ?h12 ?h21 ?h22 ?z11 ?z12 ?z21 ?z22 ?hs ?_; (case k1 => k_asm); (case k2 => k_asm); (case k3 => k_asm); (case k4 => k_asm); (case k5 => k_asm); (case kK => first | exact rfl | assumption); (case kd => ktr_room); (case ku => ktr_units); (case g => assumption); (case hl => k_mem); (case hr1 => k_mem); (case hr2 => k_mem); (case h11 => k_mem); (case h12 => k_mem); (case h21 => k_mem); (case h22 => k_mem); (case z11 => with_reducible assumption); (case z12 => with_reducible assumption); (case z21 => with_reducible assumption); (case z22 => with_reducible assumption); (case hs => omega); k_whole); intro D' u1' u2' c' h' tk' F' N' l1' sz'; (try dsimp only); (try k_fold)))
theorem bp3_does (w : World) (mean : ExcName → Option Value) (mg mb : Str → Option Value) (G : Great mg) (news : List (Addr × Obj)) (e : Nat) (l : Addr) (c : Nat) (r1 : Addr) (c1 : Nat) (r2 : Addr) (c2 : Nat) (r3 : Addr) (c3 : Nat) (a11 : Addr) (p11 : Rat) (s11 u11 : Tok) (k11 : Nat) (a12 : Addr) (p12 : Rat) (s12 u12 : Tok) (k12 : Nat) (a13 : Addr) (p13 : Rat) (s13 u13 : Tok) (k13 : Nat) (a21 : Addr) (p21 : Rat) (s21 u21 : Tok) (k21 : Nat) (a22 : Addr) (p22 : Rat) (s22 u22 : Tok) (k22 : Nat) (a23 : Addr) (p23 : Rat) (s23 u23 : Tok) (k23 : Nat) (a31 : Addr) (p31 : Rat) (s31 u31 : Tok) (k31 : Nat) (a32 : Addr) (p32 : Rat) (s32 u32 : Tok) (k32 : Nat) (a33 : Addr) (p33 : Rat) (s33 u33 : Tok) (k33 : Nat)
    (hl : (l, listObj [.ref r1, .ref r2, .ref r3] c) ∈ news) (hr1 : (r1, listObj [.ref a11, .ref a12, .ref a13] c1) ∈ news) (hr2 : (r2, listObj [.ref a21, .ref a22, .ref a23] c2) ∈ news) (hr3 : (r3, listObj [.ref a31, .ref a32, .ref a33] c3) ∈ news) (h11 : (a11, tup2 p11.num s11 p11.den u11 k11) ∈ news) (z11 : Sz e p11) (h12 : (a12, tup2 p12.num s12 p12.den u12 k12) ∈ news) (z12 : Sz e p12) (h13 : (a13, tup2 p13.num s13 p13.den u13 k13) ∈ news) (z13 : Sz e p13) (h21 : (a21, tup2 p21.num s21 p21.den u21 k21) ∈ news) (z21 : Sz e p21) (h22 : (a22, tup2 p22.num s22 p22.den u22 k22) ∈ news) (z22 : Sz e p22) (h23 : (a23, tup2 p23.num s23 p23.den u23 k23) ∈ news) (z23 : Sz e p23) (h31 : (a31, tup2 p31.num s31 p31.den u31 k31) ∈ news) (z31 : Sz e p31) (h32 : (a32, tup2 p32.num s32 p32.den u32 k32) ∈ news) (z32 : Sz e p32) (h33 : (a33, tup2 p33.num s33 p33.den u33 k33) ∈ news) (z33 : Sz e p33) (hs : 15 * e + 40 ≤ 2300) :
    Does w mean mg mb 7 148 news [.ref l] (RatPost (p11 * (p22 * p33 + -(p23 * p32)) + -(p12 * (p21 * p33 + -(p23 * p31))) + p13 * (p21 * p32 + -(p22 * p31))).num (p11 * (p22 * p33 + -(p23 * p32)) + -(p12 * (p21 * p33 + -(p23 * p31))) + p13 * (p21 * p32 + -(p22 * p31))).den news) := by
  intro dp un gd cn cs a ccd cl outer A₀ base h₀ L m s Q E B F X N T hk hd hu hret
  refine wpAny_call ?_
  k_dflt (refine' code_defC (binds := [(PySem.Str.ofString "rows", .ref l)]) ?k1 ?k2 ?k3 ?k4 ?k5 ?kA ?kF ?kK ?k6 ?k7 ?k8 ?k9 ?kB ?kD ?_ ?c2 ?c3 ?c4; (case kA => exact rfl); (case kF => exact rfl); (case kK => assumption); (case k1 => k_asm); (case k2 => k_asm); (case k3 => k_asm); (case k4 => k_asm); (case k5 => k_asm); (case k6 => k_is); (case k7 => k_is); (case k8 => ktr_room); (case k9 => exact BindsTo.of_eq rfl); (case kB => exact rfl); (case kD => decide +kernel); (case c2 => exact rfl); (case c3 => exact rfl); (case c4 => exact rfl); k_whole)
  intro g' L' h' tk' cells' FG' F' N' Y' B' X' T' l1
  have l2 := allLt_of l1
  have l3 : AllLt (L' + 1) _ := AllLt.mono l2 (Nat.le_succ _)
  have l4 : AllLt (L' + 1 + 1) _ := AllLt.mono l3 (Nat.le_succ _)
  k_cells Y'
  (try simp only [List.cons_append, List.nil_append] at N')
  (try dsimp only)
  (try k_fold)
  k_steps
  all_goals (refine' rat_ret hret ?eF ?eN ?em ?es ?el ?_ ?_; (case eF => k_asm); (case eN => k_asm); (case em => k_mem); (case es => kcj_all); (case el => first | assumption | exact allLt_of (by assumption) | (refine' AllLt.sub ?oa ?ob; (case oa => assumption); (case ob => kcj_all))))
  all_goals exact rfl
end Mine
end
section
open PySem PySem.W PyProof.Rows PySem.Calls PySem.Spec
set_option Elab.async false
set_option maxRecDepth 100000
set_option maxHeartbeats 8000000
namespace Mine
theorem comp_del {h₀ : Heap} {L I C D : Addr} {m : Str → Option Value} {s₁ : Shared} {oI oC oD : Obj} {S : List (Addr × Obj) → Prop} {rest : Value → List (Addr × Obj) → Prop} {y : Value} {h' : Heap} {tk : Nat} {all l1 l2 news' : List (Addr × Obj)}
    (F : Fr h₀ L h' m) (N : News h₀ L h' all) (D1 : Del I oI all l1) (D2 : Del C oC l1 l2) (D3 : Del D oD l2 news') (hS : S news') (r : rest y news') :
    LCg.CompEnd h₀ L m s₁ I oI C oC D oD S rest y { s₁ with heap := h', toks := tk } := by
  obtain ⟨a1, b1, c1⟩ := D1.facts
  obtain ⟨a2, b2, c2⟩ := D2.facts
  obtain ⟨a3, b3, c3⟩ := D3.facts
  refine LCg.CompEnd.intro F N news' (fun p hp => ?_) (LCg.Off3.of fun p hp => ⟨c1 p (b2 p (b3 p hp)), c2 p (b3 p hp), c3 p hp⟩) hS r
  rcases List.mem_cons.mp hp with rfl | hp
  · exact a1
  · rcases List.mem_cons.mp hp with rfl | hp
    · exact b1 _ a2
    · rcases List.mem_cons.mp hp with rfl | hp
      · exact b1 _ (b2 _ a3)
      · exact b1 _ (b2 _ (b3 _ hp))
theorem off3_addr {I C D : Addr} : ∀ {l l' : List (Addr × Obj)}, LCg.Off3 I C D l → l.map (·.1) = l'.map (·.1) → LCg.Off3 I C D l'
  | l, l', h, e => LCg.Off3.of fun p hp => by
    have hm : p.1 ∈ l.map (·.1) := by rw [e]; exact List.mem_map_of_mem hp
    obtain ⟨q, hq, hqe⟩ := List.mem_map.mp hm
    rw [← hqe]
    exact h.mem q hq
def Ent (q : Rat) : Prop := Sz 2 q ∧ q.den ∣ 6
theorem ent_of {t b : Int} (h1 : -4 ≤ t) (h2 : t ≤ 4) (h3 : 1 ≤ b) (h4 : b ≤ 3) : Ent (Rat.divInt t b) := by
  refine ⟨Sz.divInt (by omega) (by omega) (by omega), ?_⟩
  rw [Rat.den_divInt, if_neg (by omega)]
  have hd : b.natAbs / b.gcd t ∣ b.natAbs := Nat.div_dvd_of_dvd (by rw [Int.gcd_comm]; exact Int.gcd_dvd_natAbs_right t b)
  have hb : b.natAbs = 1 ∨ b.natAbs = 2 ∨ b.natAbs = 3 := by omega
  refine Nat.dvd_trans hd ?_
  rcases hb with h | h | h <;> rw [h] <;> decide
section
variable {w : World} {mean : ExcName → Option Value} {mg mb : Str → Option Value} {news : List (Addr × Obj)}
  {dp un : Nat} {gd : Option (List Code)} {cn : Str} {cs : Scope} {a : Addr} {ccd : Value} {cl : List (Str × Addr)} {outer : List Env} {A₀ : Around} {base h₀ : Heap} {L : Addr} {m : Str → Option Value} {s : Shared} {Q E : Value → Shared → Prop}
theorem make_use {t b : Int} {t1 t2 : Tok} (B : Below A₀ base outer h₀) (F : Fr h₀ L s.heap m) (X : (hd.heap_39 w.params).In h₀) (N : News h₀ L s.heap news) (T : Top hd.view_39 LO mean mg mb h₀) (hk : cs.kind = .function) (hd : dp + 2 < recursionLimit) (hu : un + 8 * 2 < cLine) (G : Great mg) (h1 : -40 ≤ t) (h2 : t ≤ 40) (h3 : 1 ≤ b) (h4 : b ≤ 40)
    (ret : ∀ D u1 u2 c h' tk', Fr h₀ L h' m → News h₀ L h' ((D, tup2 (Rat.divInt t b).num u1 (Rat.divInt t b).den u2 c) :: news) → AllLt D news → (-4 ≤ t → t ≤ 4 → b ≤ 3 → Ent (Rat.divInt t b)) → Sz 6 (Rat.divInt t b) → Q (.ref D) { s with heap := h', toks := tk' }) :
    wpAny (model PR w) (ktrTop dp un gd cn cs L a ccd cl outer) (call (.ref 67) [.int t t1, .int b t2]) Q E s := by
  obtain ⟨GR, tG, hG, hGR⟩ := G
  exact use_rat (make_does w mean mg mb GR tG hG news t b t1 t2 (by omega) (le_great (e := 6) (by omega) (by omega) hGR) (le_great (e := 6) (by omega) (by omega) hGR) (le_fit (e := 6) (by omega) (by omega))) B F X N T hk hd hu fun D u1 u2 c h' tk' F' N' l => ret D u1 u2 c h' tk' F' N' l (fun a1 a2 a3 => ent_of a1 a2 h3 a3) (Sz.divInt (by omega) (by omega) (by omega))
end
local macro_rules | `(tactic| k_mem) => `(tactic| ((repeat' (first | (with_reducible exact List.mem_cons_self ..) | ktr_member | (with_reducible refine List.mem_cons_of_mem _ ?_))); done))
local macro_rules | `(tactic| mul_fits) => `(tactic| exact Fit.mul (by assumption) (by assumption))
local macro_rules | `(tactic| k_lt $h:ident) => `(tactic| replace $h := allLt_of $h)
local macro_rules | `(tactic| k_ne) => `(tactic| ((refine neN ?_); (try dsimp only); first | (with_reducible assumption) | (refine' Ne3.ci ?oa; (case oa => with_reducible assumption)) | (refine' Ne3.di ?oa; (case oa => with_reducible assumption)) | (refine' Ne3.dc ?oa; (case oa => with_reducible assumption)) | (refine' ne_lt ?oa ?ob; (case oa => with_reducible assumption); (case ob => k_mem)) | (refine' ne_lt' ?oa ?ob; (case oa => with_reducible assumption); (case ob => k_mem)) | (refine' ne_off1 ?oa ?ob; (case oa => with_reducible assumption); (case ob => k_mem)) | (refine' ne_off1' ?oa ?ob; (case oa => with_reducible assumption); (case ob => k_mem)) | (refine' ne_off3I ?oa ?ob; (case oa => with_reducible assumption); (case ob => k_mem)) | (refine' ne_off3C ?oa ?ob; (case oa => with_reducible assumption); (case ob => k_mem)) | (refine' ne_off3D ?oa ?ob; (case oa => with_reducible assumption); (case ob => k_mem)) | (refine' ne_off3I' ?oa ?ob; (case oa => with_reducible assumption); (case ob => k_mem)) | (refine' ne_off3C' ?oa ?ob; (case oa => with_reducible assumption); (case ob => k_mem)) | (refine' ne_off3D' ?oa ?ob; (case oa => with_reducible assumption); (case ob => k_mem)) | omega))
local macro_rules | `(tactic| k_all) => `(tactic| ((repeat' (first | (with_reducible refine' List.forall_mem_cons.mpr ⟨?_, ?_⟩) | exact List.forall_mem_nil _ | (refine' ne_id ?oa; (case oa => with_reducible assumption)) | (refine' tail_lt ?oa ?ob; (case oa => with_reducible assumption); (case ob => kcj_all)) | (refine' tail_off1 ?oa ?ob; (case oa => with_reducible assumption); (case ob => kcj_all)) | (refine' tail_off3I ?oa ?ob; (case oa => with_reducible assumption); (case ob => kcj_all)) | (refine' tail_off3C ?oa ?ob; (case oa => with_reducible assumption); (case ob => kcj_all)) | (refine' tail_off3D ?oa ?ob; (case oa => with_reducible assumption); (case ob => kcj_all)) | (refine' ne_of_allLt_le ?oa ?ob; (case oa => with_reducible assumption); (case ob => omega)) | k_ne)); done))
local macro_rules | `(tactic| k_upd) => `(tactic| ((repeat' (first | (with_reducible refine' Del.head ?_) | (with_reducible refine' Del.tail ?_ ?_) | (with_reducible refine' Upd.head ?_) | (with_reducible refine' Upd.tail ?_ ?_) | (with_reducible refine' UpdF.head ?_) | (with_reducible refine' UpdF.tail ?_ ?_) | k_all | k_ne)); done))
local macro_rules | `(tactic| kcj_all) => `(tactic| ((repeat' (first | (with_reducible exact mem_same) | exact List.forall_mem_nil _ | (with_reducible refine' List.forall_mem_cons.mpr ⟨?_, ?_⟩) | (with_reducible refine' mem_step ?_) | k_mem)); done))
local macro_rules | `(tactic| walk_at "exec For Name Name cons nil") => `(tactic| (k_here; (rename Fr _ _ _ _ => lF'); (with_unfolding_all refine' For_invVF lF' ?k1 ?k2 ?_; (case k1 => exact rfl); (case k2 => exact rfl); k_whole); l_hasStore))
local macro_rules | `(tactic| walk_at "pyIter ref") => `(tactic| ((with_reducible show wpAny _ _ (pyIter (Value.ref _)) (fun it s₂ => LoopAtV _ _ _ _ _ _ _ _ _ it s₂) _ _); (rename Fr _ _ _ _ => lF'); (rename News _ _ _ _ => lN'); (with_unfolding_all refine' iter_listUnr ?hh lF' lN' ?hm ?hc ?hd ?_; (case hh => exact rfl); (case hm => k_mem); (case hc => exact rfl); (case hd => exact rfl)); clear lF' lN'; intro i' l1; (have l1' := allLt_of l1); clear l1))
local macro_rules | `(tactic| walk_at "UnrEnd") => `(tactic| (k_here; k_dflt (refine' unr_end ?F ?N ?D ?_; (case F => k_asm); (case N => k_asm); (case D => k_upd)); (try (refine ⟨by k_mem, ?_⟩)))) 
local macro_rules | `(tactic| walk_at "exec For Name Call cons nil") => `(tactic| (k_here; k_dflt (refine For_C ?_)))
local macro_rules | `(tactic| walk_at "pyIter ref") => `(tactic| ((with_reducible show wpAny _ _ (pyIter (Value.ref _)) (LoopC _ _ _ _ _ _ _ _ _) _ _); (rename Fr _ _ _ _ => lF'); (rename News _ _ _ _ => lN'); (rename IsRange _ _ _ _ _ _ _ _ => lR'); (with_unfolding_all refine' iter_rangeC ?hh lR' ?hs ?hn ?hz lF' lN' ?hE ?_; (case hh => exact rfl); (case hs => first | decide | rfl); (case hn => first | exact Eq.trans (b := [0, 1]) rfl rfl | exact Eq.trans (b := [0, 1, 2]) rfl rfl | exact Eq.trans (b := [1, 2]) rfl rfl | exact Eq.trans (b := [1]) rfl rfl | exact Eq.trans (b := [2]) rfl rfl | exact Eq.trans (b := [0]) rfl rfl | exact Eq.trans (b := ([] : List Int)) rfl rfl | exact Eq.trans (b := [0, 1, 2, 3]) rfl rfl); (case hz => decide); (case hE => first | passes_own | with_unfolding_all passes_own)); clear lF' lN' lR'; intro i' l1; (have l1' := allLt_of l1); clear l1))
local macro_rules | `(tactic| walk_at "TurnsC") => `(tactic| (with_unfolding_all first | (refine TurnsC.succ (fun it' t' h' tk' F' N' => ?_)) | (refine TurnsC.zero (fun h' tk' F' N' => ?_))))
local macro_rules | `(tactic| walk_at "CompRest") => `(tactic| (with_unfolding_all first
  | (refine LCg.CompRest.succ ?_; intro v' I' oI' C' oC' D' m' h' tk' E' hv' hC' hx' F' N' off' ne'; (first | lcg_open hv' | (obtain ⟨t9', hv9'⟩ := hv'; subst hv9')); (replace ne' := Ne3.mk' ne'))
  | refine LCg.CompRest.zero ?_))
local macro_rules | `(tactic| walk_at "CompEnd") => `(tactic| (k_here; k_dflt (refine' comp_keep ?F ?N ?O ?K ?h1 ?h2 ?h3 ?hs ?S ?_; (case F => k_asm); (case N => k_asm); (case O => with_reducible assumption); (case K => k_mem); (case h1 => k_ne); (case h2 => k_ne); (case h3 => k_ne); (case hs => ((repeat' (first | (with_reducible exact mem_same) | (with_reducible refine' mem_step ?_))); done)); (case S => lcg_src))))
local macro_rules | `(tactic| walk_at "FinE") => `(tactic| ((unfold LCg.FinE); intro D' h' tk' F' N' o1'; (try simp only [List.nil_append, List.cons_append] at N'); (try dsimp only)))
local macro_rules | `(tactic| walk_at "FinA") => `(tactic| ((unfold LCg.FinA); intro D' h' tk' F' N' o1'; (try simp only [List.nil_append, List.cons_append] at N'); (try dsimp only)))
local macro_rules | `(tactic| walk_at "UnrEnd") => `(tactic| (k_here; k_dflt (refine' unr_keep (o := tup2 _ _ _ _ _) ?F ?N ?hs ?K ?h1 ?off ?_; (case F => k_asm); (case N => k_asm); (case hs => ((repeat' (first | (with_reducible exact mem_same) | (with_reducible refine' mem_step ?_))); done)); (case K => k_mem); (case h1 => k_ne); (case off => k_all)); (try (refine ⟨by k_mem, ?_⟩))))
local macro_rules | `(tactic| walk_at "call ref") => `(tactic| (k_here; (with_reducible show wpAny _ _ (call (Value.ref 74) _) _ _ _); k_dflt (refine' sum_use ?k1 ?k2 ?k3 ?k4 ?k5 ?kK ?kd ?ku ?g ?hx ?hy ?i1 ?i2 ?i3 ?i4 ?hp ?hq ?hs ?_; (case k1 => k_asm); (case k2 => k_asm); (case k3 => k_asm); (case k4 => k_asm); (case k5 => k_asm); (case kK => first | exact rfl | assumption); (case kd => ktr_room); (case ku => ktr_units); (case g => assumption); (case hx => k_mem); (case hy => k_mem); (case i1 => first | exact rfl | exact num0 | exact num1); (case i2 => first | exact rfl | exact den0 | exact den1); (case i3 => first | exact rfl | exact num0 | exact num1); (case i4 => first | exact rfl | exact den0 | exact den1); (case hp => first | (with_reducible assumption) | exact Sz.zero | exact Sz.one); (case hq => first | (with_reducible assumption) | exact Sz.zero | exact Sz.one); (case hs => omega); k_whole); intro D' u1' u2' c' h' tk' F' N' l1' sz'; (try dsimp only); (try k_fold)))
local macro_rules | `(tactic| walk_at "call ref") => `(tactic| (k_here; (with_reducible show wpAny _ _ (call (Value.ref 81) _) _ _ _); k_dflt (refine' diff_use ?k1 ?k2 ?k3 ?k4 ?k5 ?kK ?kd ?ku ?g ?hx ?hy ?i1 ?i2 ?i3 ?i4 ?hp ?hq ?hs ?_; (case k1 => k_asm); (case k2 => k_asm); (case k3 => k_asm); (case k4 => k_asm); (case k5 => k_asm); (case kK => first | exact rfl | assumption); (case kd => ktr_room); (case ku => ktr_units); (case g => assumption); (case hx => k_mem); (case hy => k_mem); (case i1 => first | exact rfl | exact num0 | exact num1); (case i2 => first | exact rfl | exact den0 | exact den1); (case i3 => first | exact rfl | exact num0 | exact num1); (case i4 => first | exact rfl | exact den0 | exact den1); (case hp => first | (with_reducible assumption) | exact Sz.zero | exact Sz.one); (case hq => first | (with_reducible assumption) | exact Sz.zero | exact Sz.one); (case hs => omega); k_whole); intro D' u1' u2' c' h' tk' F' N' l1' sz'; (try dsimp only); (try k_fold)))
local macro_rules | `(tactic| walk_at "call ref") => `(tactic| (k_here; (with_reducible show wpAny _ _ (call (Value.ref 88) _) _ _ _); k_dflt (refine' prod_use ?k1 ?k2 ?k3 ?k4 ?k5 ?kK ?kd ?ku ?g ?hx ?hy ?i1 ?i2 ?i3 ?i4 ?hp ?hq ?hs ?_; (case k1 => k_asm); (case k2 => k_asm); (case k3 => k_asm); (case k4 => k_asm); (case k5 => k_asm); (case kK => first | exact rfl | assumption); (case kd => ktr_room); (case ku => ktr_units); (case g => assumption); (case hx => k_mem); (case hy => k_mem); (case i1 => first | exact rfl | exact num0 | exact num1); (case i2 => first | exact rfl | exact den0 | exact den1); (case i3 => first | exact rfl | exact num0 | exact num1); (case i4 => first | exact rfl | exact den0 | exact den1); (case hp => first | (with_reducible assumption) | exact Sz.zero | exact Sz.one); (case hq => first | (with_reducible assumption) | exact Sz.zero | exact Sz.one); (case hs => omega); k_whole); intro D' u1' u2' c' h' tk' F' N' l1' sz'; (try dsimp only); (try k_fold)))
local macro_rules | `(tactic| walk_at "call ref") => `(tactic| (k_here; (with_reducible show wpAny _ _ (call (Value.ref 95) _) _ _ _); k_dflt (refine' quot_use ?k1 ?k2 ?k3 ?k4 ?k5 ?kK ?kd ?ku ?g ?hx ?hy ?i1 ?i2 ?i3 ?i4 ?hp ?hq ?hs ?hn ?_; (case k1 => k_asm); (case k2 => k_asm); (case k3 => k_asm); (case k4 => k_asm); (case k5 => k_asm); (case kK => first | exact rfl | assumption); (case kd => ktr_room); (case ku => ktr_units); (case g => assumption); (case hx => k_mem); (case hy => k_mem); (case i1 => first | exact rfl | exact num0 | exact num1); (case i2 => first | exact rfl | exact den0 | exact den1); (case i3 => first | exact rfl | exact num0 | exact num1); (case i4 => first | exact rfl | exact den0 | exact den1); (case hp => first | (with_reducible assumption) | exact Sz.zero | exact Sz.one); (case hq => first | (with_reducible assumption) | exact Sz.zero | exact Sz.one); (case hs => omega); (case hn => assumption); k_whole); intro D' u1' u2' c' h' tk' F' N' l1' sz'; (try dsimp only); (try k_fold)))
local macro_rules | `(tactic| walk_at "call ref") => `(tactic| (k_here; (with_reducible show wpAny _ _ (call (Value.ref 102) _) _ _ _); k_dflt (refine' neg_use ?k1 ?k2 ?k3 ?k4 ?k5 ?kK ?kd ?ku ?hx ?i1 ?i2 ?hp ?_; (case k1 => k_asm); (case k2 => k_asm); (case k3 => k_asm); (case k4 => k_asm); (case k5 => k_asm); (case kK => first | exact rfl | assumption); (case kd => ktr_room); (case ku => ktr_units); (case hx => k_mem); (case i1 => first | exact rfl | exact num0 | exact num1); (case i2 => first | exact rfl | exact den0 | exact den1); (case hp => first | (with_reducible assumption) | exact Sz.zero | exact Sz.one); k_whole); intro D' u1' u2' c' h' tk' F' N' l1' sz'; (try dsimp only); (try k_fold)))
local macro_rules | `(tactic| walk_at "call ref") => `(tactic| (k_here; (with_reducible show wpAny _ _ (call (Value.ref 116) _) _ _ _); k_dflt (refine' order_use ?k1 ?k2 ?k3 ?k4 ?k5 ?kK ?kd ?ku ?hx ?hy ?i1 ?i2 ?i3 ?i4 ?hp ?hq ?hs ?_; (case k1 => k_asm); (case k2 => k_asm); (case k3 => k_asm); (case k4 => k_asm); (case k5 => k_asm); (case kK => first | exact rfl | assumption); (case kd => ktr_room); (case ku => ktr_units); (case hx => k_mem); (case hy => k_mem); (case i1 => first | exact rfl | exact num0 | exact num1); (case i2 => first | exact rfl | exact den0 | exact den1); (case i3 => first | exact rfl | exact num0 | exact num1); (case i4 => first | exact rfl | exact den0 | exact den1); (case hp => first | (with_reducible assumption) | exact Sz.zero | exact Sz.one); (case hq => first | (with_reducible assumption) | exact Sz.zero | exact Sz.one); (case hs => omega); k_whole); intro u' h' tk' F' N'; (try dsimp only); (try k_fold)))
local macro_rules | `(tactic| walk_at "subscriptTail") => `(tactic| (k_here; (with_reducible show wpAny _ _ (subscriptTail _ _ (Value.ref _) (Value.int _ _)) _ _ _); k_dflt (refine' item_led ?N ?m ?a ?b ?x ?_; (case N => k_asm); (case m => k_mem); (case a => decide); (case b => decide); (case x => exact rfl); k_whole)))
local macro_rules | `(tactic| walk_at "subscriptTail Name") => `(tactic| (k_here; (with_reducible show wpAny _ _ (subscriptTail _ _ (Value.ref _) (Value.int _ _)) _ _ _); k_dflt (refine' item_led ?N ?m ?a ?b ?x ?_; (case N => k_asm); (case m => k_mem); (case a => decide); (case b => decide); (case x => exact rfl); k_whole)))
local macro_rules | `(tactic| walk_at "subscriptTail Name Constant ref int") => `(tactic| (k_here; (with_reducible show wpAny _ _ (subscriptTail _ _ (Value.ref _) (Value.int _ _)) _ _ _); k_dflt (refine' item_led ?N ?m ?a ?b ?x ?_; (case N => k_asm); (case m => k_mem); (case a => decide); (case b => decide); (case x => exact rfl); k_whole)))
local macro_rules | `(tactic| walk_at "subscriptTail Name Name ref int") => `(tactic| (k_here; (with_reducible show wpAny _ _ (subscriptTail _ _ (Value.ref _) (Value.int _ _)) _ _ _); k_dflt (refine' item_led ?N ?m ?a ?b ?x ?_; (case N => k_asm); (case m => k_mem); (case a => decide); (case b => decide); (case x => exact rfl); k_whole)))
local macro_rules | `(tactic| walk_at "subscriptTail Subscript Name Constant Name ref int") => `(tactic| (k_here; (with_reducible show wpAny _ _ (subscriptTail _ _ (Value.ref _) (Value.int _ _)) _ _ _); k_dflt (refine' item_led ?N ?m ?a ?b ?x ?_; (case N => k_asm); (case m => k_mem); (case a => decide); (case b => decide); (case x => exact rfl); k_whole)))
local macro_rules | `(tactic| walk_at "subscriptTail Subscript Name Constant Constant ref int") => `(tactic| (k_here; (with_reducible show wpAny _ _ (subscriptTail _ _ (Value.ref _) (Value.int _ _)) _ _ _); k_dflt (refine' item_led ?N ?m ?a ?b ?x ?_; (case N => k_asm); (case m => k_mem); (case a => decide); (case b => decide); (case x => exact rfl); k_whole)))
local macro_rules | `(tactic| walk_at "subscriptTail Subscript Name Name Name ref int") => `(tactic| (k_here; (with_reducible show wpAny _ _ (subscriptTail _ _ (Value.ref _) (Value.int _ _)) _ _ _); k_dflt (refine' item_led ?N ?m ?a ?b ?x ?_; (case N => k_asm); (case m => k_mem); (case a => decide); (case b => decide); (case x => exact rfl); k_whole)))
local macro_rules | `(tactic| walk_at "subscriptTail Subscript Name Name Constant ref int") => `(tactic| (k_here; (with_reducible show wpAny _ _ (subscriptTail _ _ (Value.ref _) (Value.int _ _)) _ _ _); k_dflt (refine' item_led ?N ?m ?a ?b ?x ?_; (case N => k_asm); (case m => k_mem); (case a => decide); (case b => decide); (case x => exact rfl); k_whole)))
local macro_rules | `(tactic| walk_at "getItem ref int") => `(tactic| (k_here; (with_reducible show wpAny _ _ (getItem (Value.ref _) (Value.int _ _)) _ _ _); k_dflt (refine' getItem_led ?N ?m ?a ?b ?x ?_; (case N => k_asm); (case m => k_mem); (case a => decide); (case b => decide); (case x => exact rfl); k_whole)))
local macro_rules | `(tactic| walk_at "callWith builtin:list.append cons nil") => `(tactic| refine callWith_method1 ?_)
local macro_rules | `(tactic| walk_at "callWith builtin:len nil nil") => `(tactic| refine callWith_builtin1 ?_)
local macro_rules | `(tactic| walk_at "callWith builtin:len cons nil") => `(tactic| refine callWith_builtin1 ?_)
local macro_rules | `(tactic| walk_at "exec Assign cons ListComp") => `(tactic| (k_here; k_dflt (refine LCg.Assign_ListComp_U (F₀ := by k_asm) (by rfl) (by with_unfolding_all rfl) (by with_unfolding_all rfl) (by decide) (by rfl) (by decide) (by rfl) (by rfl) (by rfl) ?_)))
local macro_rules | `(tactic| walk_at "CompSrc") => `(tactic| (k_here; k_dflt (refine' LCg.CompSrc.ledger ?hh ?F ?N ?hm ?hz ?_; (case hh => exact rfl); (case F => k_asm); (case N => k_asm); (case hm => k_mem); (case hz => first | exact Nat.le_of_ble_eq_true rfl | size_fits)); intro g'; lcg_lit))
local macro_rules | `(tactic| walk_at "call builtin:list.append cons nil") => `(tactic| (k_here; k_dflt (refine' append_K ?k1 ?k2 ?k3 ?_ ?z; (case k1 => k_asm); (case k2 => k_asm); (case k3 => k_upd); (case z => size_fits); k_whole); intro h' F' N'; (try k_sweep)))
local macro_rules | `(tactic| walk_at "eval Name") => `(tactic| (k_here; (with_reducible show wpAny _ _ (eval (PySem.Expr.Name _ _) (envOfC _ _ _ _ _)) _ _ _); k_dflt (first | (refine' nameX_L ?F ?v ?_ ?a ?b; (case a => rfl); (case b => rfl); (case F => k_asm); (case v => rfl); k_whole) | (refine' nameX_C ?N ?c ?m ?d ?_ ?a ?b; (case a => rfl); (case b => rfl); (case N => k_asm); (case c => rfl); (case m => k_mem); (case d => with_reducible assumption); k_whole) | (refine' nameX_K ?F ?X ?T ?e ?_ ?a ?b; (case a => rfl); (case b => rfl); (case F => k_asm); (case X => k_asm); (case T => k_asm); (case e => k_is); k_whole))))
local macro_rules | `(tactic| walk_at "CompEnd") => `(tactic| (k_here; k_dflt (refine' comp_del ?F ?N ?D1 ?D2 ?D3 ?S ?_; (case F => k_asm); (case N => k_asm); (case D1 => k_upd); (case D2 => k_upd); (case D3 => k_upd); (case S => lcg_src))))
local macro_rules | `(tactic| walk_at "CompEnd") => `(tactic| (k_here; k_dflt (refine' comp_keep (o := tup2 _ _ _ _ _) ?F ?N ?O ?K ?h1 ?h2 ?h3 ?hs ?S ?_; (case F => k_asm); (case N => k_asm); (case hs => ((repeat' (first | (with_reducible exact mem_same) | (with_reducible refine' mem_step ?_))); done)); (case O => first | (with_reducible assumption) | (refine' off3_addr ?oa ?ob; (case oa => with_reducible assumption); (case ob => exact rfl))); (case K => k_mem); (case h1 => k_ne); (case h2 => k_ne); (case h3 => k_ne); (case S => lcg_src))))
local macro_rules | `(tactic| walk_at "CompSrc") => `(tactic| (k_here; k_dflt (refine LCg.CompSrc.range (by rfl) (by k_asm) (by k_asm) (by assumption) (by first | decide | rfl) (by first | rfl | decide) (by first | size_fits | exact Nat.le_of_ble_eq_true rfl) ?_; intro g'; lcg_lit)))
local macro_rules | `(tactic| walk_at "eval ListComp") => `(tactic| (k_here; k_dflt (refine LCg.ListComp_U (F₀ := by k_asm) (by with_unfolding_all rfl) (by decide) (by rfl) (by decide) (by rfl) ?_)))
local macro_rules | `(tactic| walk_at "call ref") => `(tactic| (k_here; (with_reducible show wpAny _ _ (call (Value.ref 67) _) _ _ _); k_dflt (refine' make_use ?k1 ?k2 ?k3 ?k4 ?k5 ?kK ?kd ?ku ?g ?h1 ?h2 ?h3 ?h4 ?_; (case k1 => k_asm); (case k2 => k_asm); (case k3 => k_asm); (case k4 => k_asm); (case k5 => k_asm); (case kK => first | exact rfl | assumption); (case kd => ktr_room); (case ku => ktr_units); (case g => assumption); (case h1 => omega); (case h2 => omega); (case h3 => omega); (case h4 => omega); k_whole); intro D' u1' u2' c' h' tk' F' N' l1' en' sz'; (try (replace en' := en' (by omega) (by omega) (by omega))); (try dsimp only); (try k_fold)))
local macro_rules | `(tactic| walk_at "call ref") => `(tactic| (k_here; (with_reducible show wpAny _ _ (call (Value.ref 131) _) _ _ _); k_dflt (refine' use_plate ?k1 ?k2 ?k3 ?k4 ?k5 ?kK ?kd ?ku ?U ?hS ?hv ?hl ?h0 ?h1 ?hm ?hm2 ?hne ?_; (case k1 => k_asm); (case k2 => k_asm); (case k3 => k_asm); (case k4 => k_asm); (case k5 => k_asm); (case kK => first | exact rfl | assumption); (case kd => ktr_room); (case ku => ktr_units); (case U => k_upd); (case hS => k_mem); (case hv => with_reducible assumption); (case hl => assumption); (case h0 => omega); (case h1 => omega); (case hm => decide); (case hm2 => decide); (case hne => assumption); k_whole); intro v' u' t' h' tk' hv0' hv1' F' N'; (refine' upd_then N' ?U ?_; (case U => k_upd)); clear N'; intro N'; (try dsimp only); (try k_fold)))
def MatPost2 (P S : Addr) (k : Int) (c0 : Nat) (news news' : List (Addr × Obj)) (r : Value) : Prop := ∃ (D : Addr) (c : Nat) (r1 : Addr) (c1 : Nat) (r2 : Addr) (c2 : Nat) (a11 : Addr) (p11 : Rat) (s11 u11 : Tok) (k11 : Nat) (a12 : Addr) (p12 : Rat) (s12 u12 : Tok) (k12 : Nat) (a21 : Addr) (p21 : Rat) (s21 u21 : Tok) (k21 : Nat) (a22 : Addr) (p22 : Rat) (s22 u22 : Tok) (k22 : Nat) (k' : Int) (t' : Tok),
  r = .ref D ∧ news' = (P, pressObj S k' t' c0) :: ([(D, listObj [.ref r1, .ref r2] c), (r1, listObj [.ref a11, .ref a12] c1), (r2, listObj [.ref a21, .ref a22] c2), (a11, tup2 p11.num s11 p11.den u11 k11), (a12, tup2 p12.num s12 p12.den u12 k12), (a21, tup2 p21.num s21 p21.den u21 k21), (a22, tup2 p22.num s22 p22.den u22 k22)] ++ news) ∧ 0 ≤ k' ∧ k' ≤ k + 20 ∧ (∀ p ∈ [(D, listObj [.ref r1, .ref r2] c), (r1, listObj [.ref a11, .ref a12] c1), (r2, listObj [.ref a21, .ref a22] c2), (a11, tup2 p11.num s11 p11.den u11 k11), (a12, tup2 p12.num s12 p12.den u12 k12), (a21, tup2 p21.num s21 p21.den u21 k21), (a22, tup2 p22.num s22 p22.den u22 k22)], ∀ q ∈ (P, pressObj S k' t' c0) :: news, q.1 ≠ p.1) ∧ Ent p11 ∧ Ent p12 ∧ Ent p21 ∧ Ent p22
theorem mat2_end {h₀ h' : Heap} {L : Addr} {m : Str → Option Value} {s : Shared} {Q : Value → Shared → Prop} {news all : List (Addr × Obj)} {P S : Addr} {k k' : Int} {c0 : Nat} {t' : Tok} {tk : Nat} {D : Addr} {c : Nat} {r1 : Addr} {c1 : Nat} {r2 : Addr} {c2 : Nat} {a11 : Addr} {p11 : Rat} {s11 u11 : Tok} {k11 : Nat} {a12 : Addr} {p12 : Rat} {s12 u12 : Tok} {k12 : Nat} {a21 : Addr} {p21 : Rat} {s21 u21 : Tok} {k21 : Nat} {a22 : Addr} {p22 : Rat} {s22 u22 : Tok} {k22 : Nat}
    (hret : ∀ r news' h' tk', Fr h₀ L h' m → News h₀ L h' news' → MatPost2 P S k c0 news news' r → Q r { s with heap := h', toks := tk' })
    (F : Fr h₀ L h' m) (N : News h₀ L h' all) (hs : ∀ p ∈ (P, pressObj S k' t' c0) :: news, p ∈ all) (hk : 0 ≤ k' ∧ k' ≤ k + 20) (hD : (D, listObj [.ref r1, .ref r2] c) ∈ all) (hr1 : (r1, listObj [.ref a11, .ref a12] c1) ∈ all) (hr2 : (r2, listObj [.ref a21, .ref a22] c2) ∈ all) (h11 : (a11, tup2 p11.num s11 p11.den u11 k11) ∈ all) (h12 : (a12, tup2 p12.num s12 p12.den u12 k12) ∈ all) (h21 : (a21, tup2 p21.num s21 p21.den u21 k21) ∈ all) (h22 : (a22, tup2 p22.num s22 p22.den u22 k22) ∈ all) (wD : ∀ q ∈ (P, pressObj S k' t' c0) :: news, q.1 ≠ D) (wr1 : ∀ q ∈ (P, pressObj S k' t' c0) :: news, q.1 ≠ r1) (wr2 : ∀ q ∈ (P, pressObj S k' t' c0) :: news, q.1 ≠ r2) (wa11 : ∀ q ∈ (P, pressObj S k' t' c0) :: news, q.1 ≠ a11) (wa12 : ∀ q ∈ (P, pressObj S k' t' c0) :: news, q.1 ≠ a12) (wa21 : ∀ q ∈ (P, pressObj S k' t' c0) :: news, q.1 ≠ a21) (wa22 : ∀ q ∈ (P, pressObj S k' t' c0) :: news, q.1 ≠ a22) (e11 : Ent p11) (e12 : Ent p12) (e21 : Ent p21) (e22 : Ent p22) : Q (.ref D) { s with heap := h', toks := tk } := by
  have inA : ∀ p ∈ [(D, listObj [.ref r1, .ref r2] c), (r1, listObj [.ref a11, .ref a12] c1), (r2, listObj [.ref a21, .ref a22] c2), (a11, tup2 p11.num s11 p11.den u11 k11), (a12, tup2 p12.num s12 p12.den u12 k12), (a21, tup2 p21.num s21 p21.den u21 k21), (a22, tup2 p22.num s22 p22.den u22 k22)], p ∈ all := fun p hp => by
      simp only [List.mem_cons, List.not_mem_nil, or_false] at hp
      rcases hp with rfl | rfl | rfl | rfl | rfl | rfl | rfl
      · exact hD
      · exact hr1
      · exact hr2
      · exact h11
      · exact h12
      · exact h21
      · exact h22
  have aw : ∀ p ∈ [(D, listObj [.ref r1, .ref r2] c), (r1, listObj [.ref a11, .ref a12] c1), (r2, listObj [.ref a21, .ref a22] c2), (a11, tup2 p11.num s11 p11.den u11 k11), (a12, tup2 p12.num s12 p12.den u12 k12), (a21, tup2 p21.num s21 p21.den u21 k21), (a22, tup2 p22.num s22 p22.den u22 k22)], ∀ q ∈ (P, pressObj S k' t' c0) :: news, q.1 ≠ p.1 := fun p hp q hq => by
      simp only [List.mem_cons, List.not_mem_nil, or_false] at hp
      rcases hp with rfl | rfl | rfl | rfl | rfl | rfl | rfl
      · exact wD q hq
      · exact wr1 q hq
      · exact wr2 q hq
      · exact wa11 q hq
      · exact wa12 q hq
      · exact wa21 q hq
      · exact wa22 q hq
  refine hret (.ref D) ((P, pressObj S k' t' c0) :: ([(D, listObj [.ref r1, .ref r2] c), (r1, listObj [.ref a11, .ref a12] c1), (r2, listObj [.ref a21, .ref a22] c2), (a11, tup2 p11.num s11 p11.den u11 k11), (a12, tup2 p12.num s12 p12.den u12 k12), (a21, tup2 p21.num s21 p21.den u21 k21), (a22, tup2 p22.num s22 p22.den u22 k22)] ++ news)) h' tk F (fun p hp => ?_) ⟨_, _, _, _, _, _, _, _, _, _, _, _, _, _, _, _, _, _, _, _, _, _, _, _, _, _, k', t', rfl, rfl, hk.1, hk.2, aw, e11, e12, e21, e22⟩
  rcases List.mem_cons.mp hp with rfl | hp
  · exact N _ (hs _ (.head _))
  · rcases List.mem_append.mp hp with hp | hp
    · exact N _ (inA p hp)
    · exact N _ (hs _ (.tail _ hp))
theorem matrix2_does (w : World) (mean : ExcName → Option Value) (mg mb : Str → Option Value) (G : Great mg) (news : List (Addr × Obj)) (P S : Addr) (k : Int) (tk : Tok) (c0 : Nat) (vs : List Value) (ns : List Int) (c2 : Nat) (t1 : Tok)
    (hS : (S, listObj vs c2) ∈ news) (hv : IntsAre vs ns) (hl : ns.length ≤ 40) (hk0 : 0 ≤ k) (hk1 : k ≤ 100) (hd : ∀ p ∈ news, p.1 ≠ P) (hne : @Ne Nat S P) :
    Does w mean mg mb 5 136 ((P, pressObj S k tk c0) :: news) [.ref P, .int 2 t1] (MatPost2 P S k c0 news) := by
  intro dp un gd cn cs a ccd cl outer A₀ base h₀ L m s Q E B F X N T hk hd hu hret
  refine wpAny_call ?_
  k_dflt (refine' code_defC (binds := [(PySem.Str.ofString "press", .ref P), (PySem.Str.ofString "size", .int 2 t1)]) ?k1 ?k2 ?k3 ?k4 ?k5 ?kA ?kF ?kK ?k6 ?k7 ?k8 ?k9 ?kB ?kD ?_ ?c2 ?c3 ?c4; (case kA => exact rfl); (case kF => exact rfl); (case kK => assumption); (case k1 => k_asm); (case k2 => k_asm); (case k3 => k_asm); (case k4 => k_asm); (case k5 => k_asm); (case k6 => k_is); (case k7 => k_is); (case k8 => ktr_room); (case k9 => exact BindsTo.of_eq rfl); (case kB => exact rfl); (case kD => decide +kernel); (case c2 => exact rfl); (case c3 => exact rfl); (case c4 => exact rfl); k_whole)
  intro g' L' h' tk' cells' FG' F' N' Y' B' X' T' l1
  have l2 := allLt_of l1
  have l3 : AllLt (L' + 1) _ := AllLt.mono l2 (Nat.le_succ _)
  have l4 : AllLt (L' + 1 + 1) _ := AllLt.mono l3 (Nat.le_succ _)
  k_cells Y'
  (try simp only [List.cons_append, List.nil_append] at N')
  (try dsimp only)
  (try k_fold)
  k_steps
  all_goals (refine' mat2_end hret ?F ?N ?hs ?hk ?hD ?hr1 ?hr2 ?h11 ?h12 ?h21 ?h22 ?wD ?wr1 ?wr2 ?wa11 ?wa12 ?wa21 ?wa22 ?e11 ?e12 ?e21 ?e22; (case F => k_asm); (case N => k_asm); (case hD => k_mem); (case hr1 => k_mem); (case hr2 => k_mem); (case h11 => k_mem); (case h12 => k_mem); (case h21 => k_mem); (case h22 => k_mem); (case hs => kcj_all); (case hk => omega); (case wD => k_all); (case wr1 => k_all); (case wr2 => k_all); (case wa11 => k_all); (case wa12 => k_all); (case wa21 => k_all); (case wa22 => k_all); (case e11 => with_reducible assumption); (case e12 => with_reducible assumption); (case e21 => with_reducible assumption); (case e22 => with_reducible assumption); skip)
end Mine
end
section
open PySem PySem.W PyProof.Rows PySem.Calls PySem.Spec
set_option Elab.async false
set_option maxRecDepth 100000
set_option maxHeartbeats 8000000
namespace Mine
local macro_rules | `(tactic| k_mem) => `(tactic| ((repeat' (first | (with_reducible exact List.mem_cons_self ..) | ktr_member | (with_reducible refine List.mem_cons_of_mem _ ?_))); done))
local macro_rules | `(tactic| mul_fits) => `(tactic| exact Fit.mul (by assumption) (by assumption))
local macro_rules | `(tactic| k_lt $h:ident) => `(tactic| replace $h := allLt_of $h)
local macro_rules | `(tactic| k_ne) => `(tactic| ((refine neN ?_); (try dsimp only); first | (with_reducible assumption) | (refine' Ne3.ci ?oa; (case oa => with_reducible assumption)) | (refine' Ne3.di ?oa; (case oa => with_reducible assumption)) | (refine' Ne3.dc ?oa; (case oa => with_reducible assumption)) | (refine' ne_lt ?oa ?ob; (case oa => with_reducible assumption); (case ob => k_mem)) | (refine' ne_lt' ?oa ?ob; (case oa => with_reducible assumption); (case ob => k_mem)) | (refine' ne_off1 ?oa ?ob; (case oa => with_reducible assumption); (case ob => k_mem)) | (refine' ne_off1' ?oa ?ob; (case oa => with_reducible assumption); (case ob => k_mem)) | (refine' ne_off3I ?oa ?ob; (case oa => with_reducible assumption); (case ob => k_mem)) | (refine' ne_off3C ?oa ?ob; (case oa => with_reducible assumption); (case ob => k_mem)) | (refine' ne_off3D ?oa ?ob; (case oa => with_reducible assumption); (case ob => k_mem)) | (refine' ne_off3I' ?oa ?ob; (case oa => with_reducible assumption); (case ob => k_mem)) | (refine' ne_off3C' ?oa ?ob; (case oa => with_reducible assumption); (case ob => k_mem)) | (refine' ne_off3D' ?oa ?ob; (case oa => with_reducible assumption); (case ob => k_mem)) | omega))
local macro_rules | `(tactic| k_all) => `(tactic| ((repeat' (first | (with_reducible refine' List.forall_mem_cons.mpr ⟨?_, ?_⟩) | exact List.forall_mem_nil _ | (refine' ne_id ?oa; (case oa => with_reducible assumption)) | (refine' tail_lt ?oa ?ob; (case oa => with_reducible assumption); (case ob => kcj_all)) | (refine' tail_off1 ?oa ?ob; (case oa => with_reducible assumption); (case ob => kcj_all)) | (refine' tail_off3I ?oa ?ob; (case oa => with_reducible assumption); (case ob => kcj_all)) | (refine' tail_off3C ?oa ?ob; (case oa => with_reducible assumption); (case ob => kcj_all)) | (refine' tail_off3D ?oa ?ob; (case oa => with_reducible assumption); (case ob => kcj_all)) | (refine' ne_of_allLt_le ?oa ?ob; (case oa => with_reducible assumption); (case ob => omega)) | k_ne)); done))
local macro_rules | `(tactic| k_upd) => `(tactic| ((repeat' (first | (with_reducible refine' Del.head ?_) | (with_reducible refine' Del.tail ?_ ?_) | (with_reducible refine' Upd.head ?_) | (with_reducible refine' Upd.tail ?_ ?_) | (with_reducible refine' UpdF.head ?_) | (with_reducible refine' UpdF.tail ?_ ?_) | k_all | k_ne)); done))
local macro_rules | `(tactic| kcj_all) => `(tactic| ((repeat' (first | (with_reducible exact mem_same) | exact List.forall_mem_nil _ | (with_reducible refine' List.forall_mem_cons.mpr ⟨?_, ?_⟩) | (with_reducible refine' mem_step ?_) | k_mem)); done))
local macro_rules | `(tactic| walk_at "exec For Name Name cons nil") => `(tactic| (k_here; (rename Fr _ _ _ _ => lF'); (with_unfolding_all refine' For_invVF lF' ?k1 ?k2 ?_; (case k1 => exact rfl); (case k2 => exact rfl); k_whole); l_hasStore))
local macro_rules | `(tactic| walk_at "pyIter ref") => `(tactic| ((with_reducible show wpAny _ _ (pyIter (Value.ref _)) (fun it s₂ => LoopAtV _ _ _ _ _ _ _ _ _ it s₂) _ _); (rename Fr _ _ _ _ => lF'); (rename News _ _ _ _ => lN'); (with_unfolding_all refine' iter_listUnr ?hh lF' lN' ?hm ?hc ?hd ?_; (case hh => exact rfl); (case hm => k_mem); (case hc => exact rfl); (case hd => exact rfl)); clear lF' lN'; intro i' l1; (have l1' := allLt_of l1); clear l1))
local macro_rules | `(tactic| walk_at "UnrEnd") => `(tactic| (k_here; k_dflt (refine' unr_end ?F ?N ?D ?_; (case F => k_asm); (case N => k_asm); (case D => k_upd)); (try (refine ⟨by k_mem, ?_⟩)))) 
local macro_rules | `(tactic| walk_at "exec For Name Call cons nil") => `(tactic| (k_here; k_dflt (refine For_C ?_)))
local macro_rules | `(tactic| walk_at "pyIter ref") => `(tactic| ((with_reducible show wpAny _ _ (pyIter (Value.ref _)) (LoopC _ _ _ _ _ _ _ _ _) _ _); (rename Fr _ _ _ _ => lF'); (rename News _ _ _ _ => lN'); (rename IsRange _ _ _ _ _ _ _ _ => lR'); (with_unfolding_all refine' iter_rangeC ?hh lR' ?hs ?hn ?hz lF' lN' ?hE ?_; (case hh => exact rfl); (case hs => first | decide | rfl); (case hn => first | exact Eq.trans (b := [0, 1]) rfl rfl | exact Eq.trans (b := [0, 1, 2]) rfl rfl | exact Eq.trans (b := [1, 2]) rfl rfl | exact Eq.trans (b := [1]) rfl rfl | exact Eq.trans (b := [2]) rfl rfl | exact Eq.trans (b := [0]) rfl rfl | exact Eq.trans (b := ([] : List Int)) rfl rfl | exact Eq.trans (b := [0, 1, 2, 3]) rfl rfl); (case hz => decide); (case hE => first | passes_own | with_unfolding_all passes_own)); clear lF' lN' lR'; intro i' l1; (have l1' := allLt_of l1); clear l1))
local macro_rules | `(tactic| walk_at "TurnsC") => `(tactic| (with_unfolding_all first | (refine TurnsC.succ (fun it' t' h' tk' F' N' => ?_)) | (refine TurnsC.zero (fun h' tk' F' N' => ?_))))
local macro_rules | `(tactic| walk_at "CompRest") => `(tactic| (with_unfolding_all first
  | (refine LCg.CompRest.succ ?_; intro v' I' oI' C' oC' D' m' h' tk' E' hv' hC' hx' F' N' off' ne'; (first | lcg_open hv' | (obtain ⟨t9', hv9'⟩ := hv'; subst hv9')); (replace ne' := Ne3.mk' ne'))
  | refine LCg.CompRest.zero ?_))
local macro_rules | `(tactic| walk_at "CompEnd") => `(tactic| (k_here; k_dflt (refine' comp_keep ?F ?N ?O ?K ?h1 ?h2 ?h3 ?hs ?S ?_; (case F => k_asm); (case N => k_asm); (case O => with_reducible assumption); (case K => k_mem); (case h1 => k_ne); (case h2 => k_ne); (case h3 => k_ne); (case hs => ((repeat' (first | (with_reducible exact mem_same) | (with_reducible refine' mem_step ?_))); done)); (case S => lcg_src))))
local macro_rules | `(tactic| walk_at "FinE") => `(tactic| ((unfold LCg.FinE); intro D' h' tk' F' N' o1'; (try simp only [List.nil_append, List.cons_append] at N'); (try dsimp only)))
local macro_rules | `(tactic| walk_at "FinA") => `(tactic| ((unfold LCg.FinA); intro D' h' tk' F' N' o1'; (try simp only [List.nil_append, List.cons_append] at N'); (try dsimp only)))
local macro_rules | `(tactic| walk_at "UnrEnd") => `(tactic| (k_here; k_dflt (refine' unr_keep (o := tup2 _ _ _ _ _) ?F ?N ?hs ?K ?h1 ?off ?_; (case F => k_asm); (case N => k_asm); (case hs => ((repeat' (first | (with_reducible exact mem_same) | (with_reducible refine' mem_step ?_))); done)); (case K => k_mem); (case h1 => k_ne); (case off => k_all)); (try (refine ⟨by k_mem, ?_⟩))))
local macro_rules | `(tactic| walk_at "call ref") => `(tactic| (k_here; (with_reducible show wpAny _ _ (call (Value.ref 74) _) _ _ _); k_dflt (refine' sum_use ?k1 ?k2 ?k3 ?k4 ?k5 ?kK ?kd ?ku ?g ?hx ?hy ?i1 ?i2 ?i3 ?i4 ?hp ?hq ?hs ?_; (case k1 => k_asm); (case k2 => k_asm); (case k3 => k_asm); (case k4 => k_asm); (case k5 => k_asm); (case kK => first | exact rfl | assumption); (case kd => ktr_room); (case ku => ktr_units); (case g => assumption); (case hx => k_mem); (case hy => k_mem); (case i1 => first | exact rfl | exact num0 | exact num1); (case i2 => first | exact rfl | exact den0 | exact den1); (case i3 => first | exact rfl | exact num0 | exact num1); (case i4 => first | exact rfl | exact den0 | exact den1); (case hp => first | (with_reducible assumption) | exact Sz.zero | exact Sz.one); (case hq => first | (with_reducible assumption) | exact Sz.zero | exact Sz.one); (case hs => omega); k_whole); intro D' u1' u2' c' h' tk' F' N' l1' sz'; (try dsimp only); (try k_fold)))
local macro_rules | `(tactic| walk_at "call ref") => `(tactic| (k_here; (with_reducible show wpAny _ _ (call (Value.ref 81) _) _ _ _); k_dflt (refine' diff_use ?k1 ?k2 ?k3 ?k4 ?k5 ?kK ?kd ?ku ?g ?hx ?hy ?i1 ?i2 ?i3 ?i4 ?hp ?hq ?hs ?_; (case k1 => k_asm); (case k2 => k_asm); (case k3 => k_asm); (case k4 => k_asm); (case k5 => k_asm); (case kK => first | exact rfl | assumption); (case kd => ktr_room); (case ku => ktr_units); (case g => assumption); (case hx => k_mem); (case hy => k_mem); (case i1 => first | exact rfl | exact num0 | exact num1); (case i2 => first | exact rfl | exact den0 | exact den1); (case i3 => first | exact rfl | exact num0 | exact num1); (case i4 => first | exact rfl | exact den0 | exact den1); (case hp => first | (with_reducible assumption) | exact Sz.zero | exact Sz.one); (case hq => first | (with_reducible assumption) | exact Sz.zero | exact Sz.one); (case hs => omega); k_whole); intro D' u1' u2' c' h' tk' F' N' l1' sz'; (try dsimp only); (try k_fold)))
local macro_rules | `(tactic| walk_at "call ref") => `(tactic| (k_here; (with_reducible show wpAny _ _ (call (Value.ref 88) _) _ _ _); k_dflt (refine' prod_use ?k1 ?k2 ?k3 ?k4 ?k5 ?kK ?kd ?ku ?g ?hx ?hy ?i1 ?i2 ?i3 ?i4 ?hp ?hq ?hs ?_; (case k1 => k_asm); (case k2 => k_asm); (case k3 => k_asm); (case k4 => k_asm); (case k5 => k_asm); (case kK => first | exact rfl | assumption); (case kd => ktr_room); (case ku => ktr_units); (case g => assumption); (case hx => k_mem); (case hy => k_mem); (case i1 => first | exact rfl | exact num0 | exact num1); (case i2 => first | exact rfl | exact den0 | exact den1); (case i3 => first | exact rfl | exact num0 | exact num1); (case i4 => first | exact rfl | exact den0 | exact den1); (case hp => first | (with_reducible assumption) | exact Sz.zero | exact Sz.one); (case hq => first | (with_reducible assumption) | exact Sz.zero | exact Sz.one); (case hs => omega); k_whole); intro D' u1' u2' c' h' tk' F' N' l1' sz'; (try dsimp only); (try k_fold)))
local macro_rules | `(tactic| walk_at "call ref") => `(tactic| (k_here; (with_reducible show wpAny _ _ (call (Value.ref 95) _) _ _ _); k_dflt (refine' quot_use ?k1 ?k2 ?k3 ?k4 ?k5 ?kK ?kd ?ku ?g ?hx ?hy ?i1 ?i2 ?i3 ?i4 ?hp ?hq ?hs ?hn ?_; (case k1 => k_asm); (case k2 => k_asm); (case k3 => k_asm); (case k4 => k_asm); (case k5 => k_asm); (case kK => first | exact rfl | assumption); (case kd => ktr_room); (case ku => ktr_units); (case g => assumption); (case hx => k_mem); (case hy => k_mem); (case i1 => first | exact rfl | exact num0 | exact num1); (case i2 => first | exact rfl | exact den0 | exact den1); (case i3 => first | exact rfl | exact num0 | exact num1); (case i4 => first | exact rfl | exact den0 | exact den1); (case hp => first | (with_reducible assumption) | exact Sz.zero | exact Sz.one); (case hq => first | (with_reducible assumption) | exact Sz.zero | exact Sz.one); (case hs => omega); (case hn => assumption); k_whole); intro D' u1' u2' c' h' tk' F' N' l1' sz'; (try dsimp only); (try k_fold)))
local macro_rules | `(tactic| walk_at "call ref") => `(tactic| (k_here; (with_reducible show wpAny _ _ (call (Value.ref 102) _) _ _ _); k_dflt (refine' neg_use ?k1 ?k2 ?k3 ?k4 ?k5 ?kK ?kd ?ku ?hx ?i1 ?i2 ?hp ?_; (case k1 => k_asm); (case k2 => k_asm); (case k3 => k_asm); (case k4 => k_asm); (case k5 => k_asm); (case kK => first | exact rfl | assumption); (case kd => ktr_room); (case ku => ktr_units); (case hx => k_mem); (case i1 => first | exact rfl | exact num0 | exact num1); (case i2 => first | exact rfl | exact den0 | exact den1); (case hp => first | (with_reducible assumption) | exact Sz.zero | exact Sz.one); k_whole); intro D' u1' u2' c' h' tk' F' N' l1' sz'; (try dsimp only); (try k_fold)))
local macro_rules | `(tactic| walk_at "call ref") => `(tactic| (k_here; (with_reducible show wpAny _ _ (call (Value.ref 116) _) _ _ _); k_dflt (refine' order_use ?k1 ?k2 ?k3 ?k4 ?k5 ?kK ?kd ?ku ?hx ?hy ?i1 ?i2 ?i3 ?i4 ?hp ?hq ?hs ?_; (case k1 => k_asm); (case k2 => k_asm); (case k3 => k_asm); (case k4 => k_asm); (case k5 => k_asm); (case kK => first | exact rfl | assumption); (case kd => ktr_room); (case ku => ktr_units); (case hx => k_mem); (case hy => k_mem); (case i1 => first | exact rfl | exact num0 | exact num1); (case i2 => first | exact rfl | exact den0 | exact den1); (case i3 => first | exact rfl | exact num0 | exact num1); (case i4 => first | exact rfl | exact den0 | exact den1); (case hp => first | (with_reducible assumption) | exact Sz.zero | exact Sz.one); (case hq => first | (with_reducible assumption) | exact Sz.zero | exact Sz.one); (case hs => omega); k_whole); intro u' h' tk' F' N'; (try dsimp only); (try k_fold)))
local macro_rules | `(tactic| walk_at "subscriptTail") => `(tactic| (k_here; (with_reducible show wpAny _ _ (subscriptTail _ _ (Value.ref _) (Value.int _ _)) _ _ _); k_dflt (refine' item_led ?N ?m ?a ?b ?x ?_; (case N => k_asm); (case m => k_mem); (case a => decide); (case b => decide); (case x => exact rfl); k_whole)))
local macro_rules | `(tactic| walk_at "subscriptTail Name") => `(tactic| (k_here; (with_reducible show wpAny _ _ (subscriptTail _ _ (Value.ref _) (Value.int _ _)) _ _ _); k_dflt (refine' item_led ?N ?m ?a ?b ?x ?_; (case N => k_asm); (case m => k_mem); (case a => decide); (case b => decide); (case x => exact rfl); k_whole)))
local macro_rules | `(tactic| walk_at "subscriptTail Name Constant ref int") => `(tactic| (k_here; (with_reducible show wpAny _ _ (subscriptTail _ _ (Value.ref _) (Value.int _ _)) _ _ _); k_dflt (refine' item_led ?N ?m ?a ?b ?x ?_; (case N => k_asm); (case m => k_mem); (case a => decide); (case b => decide); (case x => exact rfl); k_whole)))
local macro_rules | `(tactic| walk_at "subscriptTail Name Name ref int") => `(tactic| (k_here; (with_reducible show wpAny _ _ (subscriptTail _ _ (Value.ref _) (Value.int _ _)) _ _ _); k_dflt (refine' item_led ?N ?m ?a ?b ?x ?_; (case N => k_asm); (case m => k_mem); (case a => decide); (case b => decide); (case x => exact rfl); k_whole)))
local macro_rules | `(tactic| walk_at "subscriptTail Subscript Name Constant Name ref int") => `(tactic| (k_here; (with_reducible show wpAny _ _ (subscriptTail _ _ (Value.ref _) (Value.int _ _)) _ _ _); k_dflt (refine' item_led ?N ?m ?a ?b ?x ?_; (case N => k_asm); (case m => k_mem); (case a => decide); (case b => decide); (case x => exact rfl); k_whole)))
local macro_rules | `(tactic| walk_at "subscriptTail Subscript Name Constant Constant ref int") => `(tactic| (k_here; (with_reducible show wpAny _ _ (subscriptTail _ _ (Value.ref _) (Value.int _ _)) _ _ _); k_dflt (refine' item_led ?N ?m ?a ?b ?x ?_; (case N => k_asm); (case m => k_mem); (case a => decide); (case b => decide); (case x => exact rfl); k_whole)))
local macro_rules | `(tactic| walk_at "subscriptTail Subscript Name Name Name ref int") => `(tactic| (k_here; (with_reducible show wpAny _ _ (subscriptTail _ _ (Value.ref _) (Value.int _ _)) _ _ _); k_dflt (refine' item_led ?N ?m ?a ?b ?x ?_; (case N => k_asm); (case m => k_mem); (case a => decide); (case b => decide); (case x => exact rfl); k_whole)))
local macro_rules | `(tactic| walk_at "subscriptTail Subscript Name Name Constant ref int") => `(tactic| (k_here; (with_reducible show wpAny _ _ (subscriptTail _ _ (Value.ref _) (Value.int _ _)) _ _ _); k_dflt (refine' item_led ?N ?m ?a ?b ?x ?_; (case N => k_asm); (case m => k_mem); (case a => decide); (case b => decide); (case x => exact rfl); k_whole)))
local macro_rules | `(tactic| walk_at "getItem ref int") => `(tactic| (k_here; (with_reducible show wpAny _ _ (getItem (Value.ref _) (Value.int _ _)) _ _ _); k_dflt (refine' getItem_led ?N ?m ?a ?b ?x ?_; (case N => k_asm); (case m => k_mem); (case a => decide); (case b => decide); (case x => exact rfl); k_whole)))
local macro_rules | `(tactic| walk_at "callWith builtin:list.append cons nil") => `(tactic| refine callWith_method1 ?_)
local macro_rules | `(tactic| walk_at "callWith builtin:len nil nil") => `(tactic| refine callWith_builtin1 ?_)
local macro_rules | `(tactic| walk_at "callWith builtin:len cons nil") => `(tactic| refine callWith_builtin1 ?_)
local macro_rules | `(tactic| walk_at "exec Assign cons ListComp") => `(tactic| (k_here; k_dflt (refine LCg.Assign_ListComp_U (F₀ := by k_asm) (by rfl) (by with_unfolding_all rfl) (by with_unfolding_all rfl) (by decide) (by rfl) (by decide) (by rfl) (by rfl) (by rfl) ?_)))
local macro_rules | `(tactic| walk_at "CompSrc") => `(tactic| (k_here; k_dflt (refine' LCg.CompSrc.ledger ?hh ?F ?N ?hm ?hz ?_; (case hh => exact rfl); (case F => k_asm); (case N => k_asm); (case hm => k_mem); (case hz => first | exact Nat.le_of_ble_eq_true rfl | size_fits)); intro g'; lcg_lit))
local macro_rules | `(tactic| walk_at "call builtin:list.append cons nil") => `(tactic| (k_here; k_dflt (refine' append_K ?k1 ?k2 ?k3 ?_ ?z; (case k1 => k_asm); (case k2 => k_asm); (case k3 => k_upd); (case z => size_fits); k_whole); intro h' F' N'; (try k_sweep)))
local macro_rules | `(tactic| walk_at "eval Name") => `(tactic| (k_here; (with_reducible show wpAny _ _ (eval (PySem.Expr.Name _ _) (envOfC _ _ _ _ _)) _ _ _); k_dflt (first | (refine' nameX_L ?F ?v ?_ ?a ?b; (case a => rfl); (case b => rfl); (case F => k_asm); (case v => rfl); k_whole) | (refine' nameX_C ?N ?c ?m ?d ?_ ?a ?b; (case a => rfl); (case b => rfl); (case N => k_asm); (case c => rfl); (case m => k_mem); (case d => with_reducible assumption); k_whole) | (refine' nameX_K ?F ?X ?T ?e ?_ ?a ?b; (case a => rfl); (case b => rfl); (case F => k_asm); (case X => k_asm); (case T => k_asm); (case e => k_is); k_whole))))
local macro_rules | `(tactic| walk_at "CompEnd") => `(tactic| (k_here; k_dflt (refine' comp_del ?F ?N ?D1 ?D2 ?D3 ?S ?_; (case F => k_asm); (case N => k_asm); (case D1 => k_upd); (case D2 => k_upd); (case D3 => k_upd); (case S => lcg_src))))
local macro_rules | `(tactic| walk_at "CompEnd") => `(tactic| (k_here; k_dflt (refine' comp_keep (o := tup2 _ _ _ _ _) ?F ?N ?O ?K ?h1 ?h2 ?h3 ?hs ?S ?_; (case F => k_asm); (case N => k_asm); (case hs => ((repeat' (first | (with_reducible exact mem_same) | (with_reducible refine' mem_step ?_))); done)); (case O => first | (with_reducible assumption) | (refine' off3_addr ?oa ?ob; (case oa => with_reducible assumption); (case ob => exact rfl))); (case K => k_mem); (case h1 => k_ne); (case h2 => k_ne); (case h3 => k_ne); (case S => lcg_src))))
local macro_rules | `(tactic| walk_at "CompSrc") => `(tactic| (k_here; k_dflt (refine LCg.CompSrc.range (by rfl) (by k_asm) (by k_asm) (by assumption) (by first | decide | rfl) (by first | rfl | decide) (by first | size_fits | exact Nat.le_of_ble_eq_true rfl) ?_; intro g'; lcg_lit)))
local macro_rules | `(tactic| walk_at "eval ListComp") => `(tactic| (k_here; k_dflt (refine LCg.ListComp_U (F₀ := by k_asm) (by with_unfolding_all rfl) (by decide) (by rfl) (by decide) (by rfl) ?_)))
local macro_rules | `(tactic| walk_at "call ref") => `(tactic| (k_here; (with_reducible show wpAny _ _ (call (Value.ref 67) _) _ _ _); k_dflt (refine' make_use ?k1 ?k2 ?k3 ?k4 ?k5 ?kK ?kd ?ku ?g ?h1 ?h2 ?h3 ?h4 ?_; (case k1 => k_asm); (case k2 => k_asm); (case k3 => k_asm); (case k4 => k_asm); (case k5 => k_asm); (case kK => first | exact rfl | assumption); (case kd => ktr_room); (case ku => ktr_units); (case g => assumption); (case h1 => omega); (case h2 => omega); (case h3 => omega); (case h4 => omega); k_whole); intro D' u1' u2' c' h' tk' F' N' l1' en' sz'; (try (replace en' := en' (by omega) (by omega) (by omega))); (try dsimp only); (try k_fold)))
local macro_rules | `(tactic| walk_at "call ref") => `(tactic| (k_here; (with_reducible show wpAny _ _ (call (Value.ref 131) _) _ _ _); k_dflt (refine' use_plate ?k1 ?k2 ?k3 ?k4 ?k5 ?kK ?kd ?ku ?U ?hS ?hv ?hl ?h0 ?h1 ?hm ?hm2 ?hne ?_; (case k1 => k_asm); (case k2 => k_asm); (case k3 => k_asm); (case k4 => k_asm); (case k5 => k_asm); (case kK => first | exact rfl | assumption); (case kd => ktr_room); (case ku => ktr_units); (case U => k_upd); (case hS => k_mem); (case hv => with_reducible assumption); (case hl => assumption); (case h0 => omega); (case h1 => omega); (case hm => decide); (case hm2 => decide); (case hne => assumption); k_whole); intro v' u' t' h' tk' hv0' hv1' F' N'; (refine' upd_then N' ?U ?_; (case U => k_upd)); clear N'; intro N'; (try dsimp only); (try k_fold)))
def MatPost3 (P S : Addr) (k : Int) (c0 : Nat) (news news' : List (Addr × Obj)) (r : Value) : Prop := ∃ (D : Addr) (c : Nat) (r1 : Addr) (c1 : Nat) (r2 : Addr) (c2 : Nat) (r3 : Addr) (c3 : Nat) (a11 : Addr) (p11 : Rat) (s11 u11 : Tok) (k11 : Nat) (a12 : Addr) (p12 : Rat) (s12 u12 : Tok) (k12 : Nat) (a13 : Addr) (p13 : Rat) (s13 u13 : Tok) (k13 : Nat) (a21 : Addr) (p21 : Rat) (s21 u21 : Tok) (k21 : Nat) (a22 : Addr) (p22 : Rat) (s22 u22 : Tok) (k22 : Nat) (a23 : Addr) (p23 : Rat) (s23 u23 : Tok) (k23 : Nat) (a31 : Addr) (p31 : Rat) (s31 u31 : Tok) (k31 : Nat) (a32 : Addr) (p32 : Rat) (s32 u32 : Tok) (k32 : Nat) (a33 : Addr) (p33 : Rat) (s33 u33 : Tok) (k33 : Nat) (k' : Int) (t' : Tok),
  r = .ref D ∧ news' = (P, pressObj S k' t' c0) :: ([(D, listObj [.ref r1, .ref r2, .ref r3] c), (r1, listObj [.ref a11, .ref a12, .ref a13] c1), (r2, listObj [.ref a21, .ref a22, .ref a23] c2), (r3, listObj [.ref a31, .ref a32, .ref a33] c3), (a11, tup2 p11.num s11 p11.den u11 k11), (a12, tup2 p12.num s12 p12.den u12 k12), (a13, tup2 p13.num s13 p13.den u13 k13), (a21, tup2 p21.num s21 p21.den u21 k21), (a22, tup2 p22.num s22 p22.den u22 k22), (a23, tup2 p23.num s23 p23.den u23 k23), (a31, tup2 p31.num s31 p31.den u31 k31), (a32, tup2 p32.num s32 p32.den u32 k32), (a33, tup2 p33.num s33 p33.den u33 k33)] ++ news) ∧ 0 ≤ k' ∧ k' ≤ k + 20 ∧ (∀ p ∈ [(D, listObj [.ref r1, .ref r2, .ref r3] c), (r1, listObj [.ref a11, .ref a12, .ref a13] c1), (r2, listObj [.ref a21, .ref a22, .ref a23] c2), (r3, listObj [.ref a31, .ref a32, .ref a33] c3), (a11, tup2 p11.num s11 p11.den u11 k11), (a12, tup2 p12.num s12 p12.den u12 k12), (a13, tup2 p13.num s13 p13.den u13 k13), (a21, tup2 p21.num s21 p21.den u21 k21), (a22, tup2 p22.num s22 p22.den u22 k22), (a23, tup2 p23.num s23 p23.den u23 k23), (a31, tup2 p31.num s31 p31.den u31 k31), (a32, tup2 p32.num s32 p32.den u32 k32), (a33, tup2 p33.num s33 p33.den u33 k33)], ∀ q ∈ (P, pressObj S k' t' c0) :: news, q.1 ≠ p.1) ∧ Ent p11 ∧ Ent p12 ∧ Ent p13 ∧ Ent p21 ∧ Ent p22 ∧ Ent p23 ∧ Ent p31 ∧ Ent p32 ∧ Ent p33
theorem mat3_end {h₀ h' : Heap} {L : Addr} {m : Str → Option Value} {s : Shared} {Q : Value → Shared → Prop} {news all : List (Addr × Obj)} {P S : Addr} {k k' : Int} {c0 : Nat} {t' : Tok} {tk : Nat} {D : Addr} {c : Nat} {r1 : Addr} {c1 : Nat} {r2 : Addr} {c2 : Nat} {r3 : Addr} {c3 : Nat} {a11 : Addr} {p11 : Rat} {s11 u11 : Tok} {k11 : Nat} {a12 : Addr} {p12 : Rat} {s12 u12 : Tok} {k12 : Nat} {a13 : Addr} {p13 : Rat} {s13 u13 : Tok} {k13 : Nat} {a21 : Addr} {p21 : Rat} {s21 u21 : Tok} {k21 : Nat} {a22 : Addr} {p22 : Rat} {s22 u22 : Tok} {k22 : Nat} {a23 : Addr} {p23 : Rat} {s23 u23 : Tok} {k23 : Nat} {a31 : Addr} {p31 : Rat} {s31 u31 : Tok} {k31 : Nat} {a32 : Addr} {p32 : Rat} {s32 u32 : Tok} {k32 : Nat} {a33 : Addr} {p33 : Rat} {s33 u33 : Tok} {k33 : Nat}
    (hret : ∀ r news' h' tk', Fr h₀ L h' m → News h₀ L h' news' → MatPost3 P S k c0 news news' r → Q r { s with heap := h', toks := tk' })
    (F : Fr h₀ L h' m) (N : News h₀ L h' all) (hs : ∀ p ∈ (P, pressObj S k' t' c0) :: news, p ∈ all) (hk : 0 ≤ k' ∧ k' ≤ k + 20) (hD : (D, listObj [.ref r1, .ref r2, .ref r3] c) ∈ all) (hr1 : (r1, listObj [.ref a11, .ref a12, .ref a13] c1) ∈ all) (hr2 : (r2, listObj [.ref a21, .ref a22, .ref a23] c2) ∈ all) (hr3 : (r3, listObj [.ref a31, .ref a32, .ref a33] c3) ∈ all) (h11 : (a11, tup2 p11.num s11 p11.den u11 k11) ∈ all) (h12 : (a12, tup2 p12.num s12 p12.den u12 k12) ∈ all) (h13 : (a13, tup2 p13.num s13 p13.den u13 k13) ∈ all) (h21 : (a21, tup2 p21.num s21 p21.den u21 k21) ∈ all) (h22 : (a22, tup2 p22.num s22 p22.den u22 k22) ∈ all) (h23 : (a23, tup2 p23.num s23 p23.den u23 k23) ∈ all) (h31 : (a31, tup2 p31.num s31 p31.den u31 k31) ∈ all) (h32 : (a32, tup2 p32.num s32 p32.den u32 k32) ∈ all) (h33 : (a33, tup2 p33.num s33 p33.den u33 k33) ∈ all) (wD : ∀ q ∈ (P, pressObj S k' t' c0) :: news, q.1 ≠ D) (wr1 : ∀ q ∈ (P, pressObj S k' t' c0) :: news, q.1 ≠ r1) (wr2 : ∀ q ∈ (P, pressObj S k' t' c0) :: news, q.1 ≠ r2) (wr3 : ∀ q ∈ (P, pressObj S k' t' c0) :: news, q.1 ≠ r3) (wa11 : ∀ q ∈ (P, pressObj S k' t' c0) :: news, q.1 ≠ a11) (wa12 : ∀ q ∈ (P, pressObj S k' t' c0) :: news, q.1 ≠ a12) (wa13 : ∀ q ∈ (P, pressObj S k' t' c0) :: news, q.1 ≠ a13) (wa21 : ∀ q ∈ (P, pressObj S k' t' c0) :: news, q.1 ≠ a21) (wa22 : ∀ q ∈ (P, pressObj S k' t' c0) :: news, q.1 ≠ a22) (wa23 : ∀ q ∈ (P, pressObj S k' t' c0) :: news, q.1 ≠ a23) (wa31 : ∀ q ∈ (P, pressObj S k' t' c0) :: news, q.1 ≠ a31) (wa32 : ∀ q ∈ (P, pressObj S k' t' c0) :: news, q.1 ≠ a32) (wa33 : ∀ q ∈ (P, pressObj S k' t' c0) :: news, q.1 ≠ a33) (e11 : Ent p11) (e12 : Ent p12) (e13 : Ent p13) (e21 : Ent p21) (e22 : Ent p22) (e23 : Ent p23) (e31 : Ent p31) (e32 : Ent p32) (e33 : Ent p33) : Q (.ref D) { s with heap := h', toks := tk } := by
  have inA : ∀ p ∈ [(D, listObj [.ref r1, .ref r2, .ref r3] c), (r1, listObj [.ref a11, .ref a12, .ref a13] c1), (r2, listObj [.ref a21, .ref a22, .ref a23] c2), (r3, listObj [.ref a31, .ref a32, .ref a33] c3), (a11, tup2 p11.num s11 p11.den u11 k11), (a12, tup2 p12.num s12 p12.den u12 k12), (a13, tup2 p13.num s13 p13.den u13 k13), (a21, tup2 p21.num s21 p21.den u21 k21), (a22, tup2 p22.num s22 p22.den u22 k22), (a23, tup2 p23.num s23 p23.den u23 k23), (a31, tup2 p31.num s31 p31.den u31 k31), (a32, tup2 p32.num s32 p32.den u32 k32), (a33, tup2 p33.num s33 p33.den u33 k33)], p ∈ all := fun p hp => by
      simp only [List.mem_cons, List.not_mem_nil, or_false] at hp
      rcases hp with rfl | rfl | rfl | rfl | rfl | rfl | rfl | rfl | rfl | rfl | rfl | rfl | rfl
      · exact hD
      · exact hr1
      · exact hr2
      · exact hr3
      · exact h11
      · exact h12
      · exact h13
      · exact h21
      · exact h22
      · exact h23
      · exact h31
      · exact h32
      · exact h33
  have aw : ∀ p ∈ [(D, listObj [.ref r1, .ref r2, .ref r3] c), (r1, listObj [.ref a11, .ref a12, .ref a13] c1), (r2, listObj [.ref a21, .ref a22, .ref a23] c2), (r3, listObj [.ref a31, .ref a32, .ref a33] c3), (a11, tup2 p11.num s11 p11.den u11 k11), (a12, tup2 p12.num s12 p12.den u12 k12), (a13, tup2 p13.num s13 p13.den u13 k13), (a21, tup2 p21.num s21 p21.den u21 k21), (a22, tup2 p22.num s22 p22.den u22 k22), (a23, tup2 p23.num s23 p23.den u23 k23), (a31, tup2 p31.num s31 p31.den u31 k31), (a32, tup2 p32.num s32 p32.den u32 k32), (a33, tup2 p33.num s33 p33.den u33 k33)], ∀ q ∈ (P, pressObj S k' t' c0) :: news, q.1 ≠ p.1 := fun p hp q hq => by
      simp only [List.mem_cons, List.not_mem_nil, or_false] at hp
      rcases hp with rfl | rfl | rfl | rfl | rfl | rfl | rfl | rfl | rfl | rfl | rfl | rfl | rfl
      · exact wD q hq
      · exact wr1 q hq
      · exact wr2 q hq
      · exact wr3 q hq
      · exact wa11 q hq
      · exact wa12 q hq
      · exact wa13 q hq
      · exact wa21 q hq
      · exact wa22 q hq
      · exact wa23 q hq
      · exact wa31 q hq
      · exact wa32 q hq
      · exact wa33 q hq
  refine hret (.ref D) ((P, pressObj S k' t' c0) :: ([(D, listObj [.ref r1, .ref r2, .ref r3] c), (r1, listObj [.ref a11, .ref a12, .ref a13] c1), (r2, listObj [.ref a21, .ref a22, .ref a23] c2), (r3, listObj [.ref a31, .ref a32, .ref a33] c3), (a11, tup2 p11.num s11 p11.den u11 k11), (a12, tup2 p12.num s12 p12.den u12 k12), (a13, tup2 p13.num s13 p13.den u13 k13), (a21, tup2 p21.num s21 p21.den u21 k21), (a22, tup2 p22.num s22 p22.den u22 k22), (a23, tup2 p23.num s23 p23.den u23 k23), (a31, tup2 p31.num s31 p31.den u31 k31), (a32, tup2 p32.num s32 p32.den u32 k32), (a33, tup2 p33.num s33 p33.den u33 k33)] ++ news)) h' tk F (fun p hp => ?_) ⟨_, _, _, _, _, _, _, _, _, _, _, _, _, _, _, _, _, _, _, _, _, _, _, _, _, _, _, _, _, _, _, _, _, _, _, _, _, _, _, _, _, _, _, _, _, _, _, _, _, _, _, _, _, k', t', rfl, rfl, hk.1, hk.2, aw, e11, e12, e13, e21, e22, e23, e31, e32, e33⟩
  rcases List.mem_cons.mp hp with rfl | hp
  · exact N _ (hs _ (.head _))
  · rcases List.mem_append.mp hp with hp | hp
    · exact N _ (inA p hp)
    · exact N _ (hs _ (.tail _ hp))
theorem matrix3_does (w : World) (mean : ExcName → Option Value) (mg mb : Str → Option Value) (G : Great mg) (news : List (Addr × Obj)) (P S : Addr) (k : Int) (tk : Tok) (c0 : Nat) (vs : List Value) (ns : List Int) (c2 : Nat) (t1 : Tok)
    (hS : (S, listObj vs c2) ∈ news) (hv : IntsAre vs ns) (hl : ns.length ≤ 40) (hk0 : 0 ≤ k) (hk1 : k ≤ 100) (hd : ∀ p ∈ news, p.1 ≠ P) (hne : @Ne Nat S P) :
    Does w mean mg mb 5 136 ((P, pressObj S k tk c0) :: news) [.ref P, .int 3 t1] (MatPost3 P S k c0 news) := by
  intro dp un gd cn cs a ccd cl outer A₀ base h₀ L m s Q E B F X N T hk hd hu hret
  refine wpAny_call ?_
  k_dflt (refine' code_defC (binds := [(PySem.Str.ofString "press", .ref P), (PySem.Str.ofString "size", .int 3 t1)]) ?k1 ?k2 ?k3 ?k4 ?k5 ?kA ?kF ?kK ?k6 ?k7 ?k8 ?k9 ?kB ?kD ?_ ?c2 ?c3 ?c4; (case kA => exact rfl); (case kF => exact rfl); (case kK => assumption); (case k1 => k_asm); (case k2 => k_asm); (case k3 => k_asm); (case k4 => k_asm); (case k5 => k_asm); (case k6 => k_is); (case k7 => k_is); (case k8 => ktr_room); (case k9 => exact BindsTo.of_eq rfl); (case kB => exact rfl); (case kD => decide +kernel); (case c2 => exact rfl); (case c3 => exact rfl); (case c4 => exact rfl); k_whole)
  intro g' L' h' tk' cells' FG' F' N' Y' B' X' T' l1
  have l2 := allLt_of l1
  have l3 : AllLt (L' + 1) _ := AllLt.mono l2 (Nat.le_succ _)
  have l4 : AllLt (L' + 1 + 1) _ := AllLt.mono l3 (Nat.le_succ _)
  k_cells Y'
  (try simp only [List.cons_append, List.nil_append] at N')
  (try dsimp only)
  (try k_fold)
  k_steps
  all_goals (refine' mat3_end hret ?F ?N ?hs ?hk ?hD ?hr1 ?hr2 ?hr3 ?h11 ?h12 ?h13 ?h21 ?h22 ?h23 ?h31 ?h32 ?h33 ?wD ?wr1 ?wr2 ?wr3 ?wa11 ?wa12 ?wa13 ?wa21 ?wa22 ?wa23 ?wa31 ?wa32 ?wa33 ?e11 ?e12 ?e13 ?e21 ?e22 ?e23 ?e31 ?e32 ?e33; (case F => k_asm); (case N => k_asm); (case hD => k_mem); (case hr1 => k_mem); (case hr2 => k_mem); (case hr3 => k_mem); (case h11 => k_mem); (case h12 => k_mem); (case h13 => k_mem); (case h21 => k_mem); (case h22 => k_mem); (case h23 => k_mem); (case h31 => k_mem); (case h32 => k_mem); (case h33 => k_mem); (case hs => kcj_all); (case hk => omega); (case wD => k_all); (case wr1 => k_all); (case wr2 => k_all); (case wr3 => k_all); (case wa11 => k_all); (case wa12 => k_all); (case wa13 => k_all); (case wa21 => k_all); (case wa22 => k_all); (case wa23 => k_all); (case wa31 => k_all); (case wa32 => k_all); (case wa33 => k_all); (case e11 => with_reducible assumption); (case e12 => with_reducible assumption); (case e13 => with_reducible assumption); (case e21 => with_reducible assumption); (case e22 => with_reducible assumption); (case e23 => with_reducible assumption); (case e31 => with_reducible assumption); (case e32 => with_reducible assumption); (case e33 => with_reducible assumption); skip)
end Mine
end
section
open PySem PySem.W PyProof.Rows PySem.Calls PySem.Spec
set_option Elab.async false
set_option maxRecDepth 100000
set_option maxHeartbeats 8000000
namespace Mine
section
variable {prog : Program} {w : World} {A : Around} {E : Value → Shared → Prop} {s : Shared} {h₀ : Heap} {L : Addr} {m : Str → Option Value} {env : Env}
def EndC (h₀ : Heap) (L : Addr) (m : Str → Option Value) (s₁ : Shared) (I : Addr) (oI : Obj) (C : Addr) (oC : Obj) (D : Addr) (oD : Obj) (X : Addr) (oX : Obj) (S : List (Addr × Obj) → Prop) (rest : Value → List (Addr × Obj) → Prop) (y : Value) (s₂ : Shared) : Prop :=
  ∃ h' tk news', s₂ = { s₁ with heap := h', toks := tk } ∧ Fr h₀ L h' m ∧ News h₀ L h' ((I, oI) :: (C, oC) :: (D, oD) :: (X, oX) :: news') ∧ LCg.Off3 I C D ((X, oX) :: news') ∧ LCg.Off1 X news' ∧ S news' ∧ rest y news'
def RestC (prog : Program) (w : World) (A : Around) (h₀ : Heap) (L : Addr) (m : Str → Option Value) (env : Env) (elt : PySem.Expr) (x : Str) (scope : Scope) (cl : List (Str × Addr)) (s : Shared) (S : List (Addr × Obj) → Prop) (P : Nat → Value → Prop)
    (Fin : List Value → List (Addr × Obj) → Prop) : Nat → Nat → List Value → List (Addr × Obj) → Prop
  | 0, _, ys, news => Fin ys news
  | k + 1, i, ys, news => ∀ v I oI C oC D X oX h tk (E' : Value → Shared → Prop), P i v → oX.data = .cell (some v) → Fr h₀ L h m → News h₀ L h ((I, oI) :: (C, oC) :: (D, LCg.lst ys) :: (X, oX) :: news) → LCg.Off3 I C D ((X, oX) :: news) → LCg.Off1 X news → (@Ne Nat I C ∧ @Ne Nat I D ∧ @Ne Nat C D) →
      wpAny (model prog w) A (eval elt (compEnvC scope ((x, X) :: cl) C env)) (EndC h₀ L m { s with heap := h, toks := tk } I oI C oC D (LCg.lst ys) X oX S (fun y news' => RestC prog w A h₀ L m env elt x scope cl s S P Fin k (i + 1) (ys ++ [y]) news')) E' { s with heap := h, toks := tk }
theorem newEnv_cells1 {scope : Scope} {globals : Addr} {cl : List (Str × Addr)} {qual : Str} {outer : Env} {Q : Env → Shared → Prop}
    (hQ : Q { scope, locals := s.heap.objs.size, globals, cells := cellsFrom (s.heap.objs.size + 1) scope.names cl, qual, func := none, code := outer.code, frame := outer.frame, builtins := outer.builtins } { s with heap := pushCells (s.heap.push { cls := .type "dict", data := .dict #[] }) scope.names }) :
    wpAny (model prog w) A (newFunctionEnv scope globals cl [] qual none .none (some outer)) Q E s := by
  simp only [newFunctionEnv, Option.isSome_some, if_true]
  refine wpAny_bind (wpAny_alloc ?_)
  refine wpAny_bind (wpAny_layCells _ (fun name kind cells => by cases hkc : kind == NameKind.cell <;> simp [hkc]) _ _ _ _ ?_)
  rw [show ({ s with heap := s.heap.push { cls := .type "dict", data := .dict #[] } } : Shared).heap.objs.size = s.heap.objs.size + 1 from Heap.size_push ..]
  refine wpAny_bind ?_
  rw [List.forIn_nil]
  exact wpAny_pure (wpAny_pure hQ)
theorem block_C {elt iter : PySem.Expr} {x : Str} {px : Pos} {scope : Scope} {cl : List (Str × Addr)} {pos : Pos} {s₂ : Shared} {I : Addr} {fp : List Addr} {n : Nat} {P : Nat → Value → Prop} {St : Nat → Heap → Prop} {S : List (Addr × Obj) → Prop} {news : List (Addr × Obj)}
    {Fin : List Value → List (Addr × Obj) → Prop} {RR : Value → Addr → Result → Shared → Prop}
    (W : Walks prog w A I fp [I] n P St) (hsz : n ≤ sizeLine) (hIo : ∀ i h, St i h → ∃ o, h.get? I = some o)
    (hSt : ∀ i h h' o nw, St i h → h.get? I = some o → h'.get? I = some o → (∀ b o, h₀.get? b = some o → h'.get? b = some o) → News h₀ L h' nw → S nw → St i h')
    (hcf : ∀ k acc, cellsFrom k scope.names acc = (x, k) :: acc) (hpc : ∀ h : Heap, pushCells h scope.names = h.push { cls := .type "cell", data := .cell none })
    (hkind : scope.kind = .function) (hx : ∀ X C, (compEnvC scope ((x, X) :: cl) C env).kindOf x = some .cell) (hst : St 0 s₂.heap) (hfp : ∀ b ∈ fp, b < s₂.heap.objs.size)
    (F : Fr h₀ L s₂.heap m) (N : News h₀ L s₂.heap news) (hIL : L ≠ I) (hI₀ : h₀.get? I = none) (off : ∀ p ∈ news, p.1 ≠ I) (hS : S news)
    (R : RestC prog w A h₀ L m env elt x scope cl s₂ S P Fin n 0 [] news)
    (hRR : ∀ D C h tk m' ys news', Fr h₀ L h m → News h₀ L h ((D, LCg.lst ys) :: news') → LCg.Off1 D news' → h.Ns C m' → h₀.get? C = none → h₀.get? D = none → C ≠ L → D ≠ L → C ≠ D → (∀ p ∈ news', p.1 ≠ C) → Fin ys news' → RR (.ref D) C (.ok .next) { s₂ with heap := h, toks := tk }) :
    wpAny (model prog w) A (newList []) (fun acc s₃ => wpAny (model prog w) A (newFunctionEnv scope env.globals cl [] env.qual none .none (some env)) (fun cenv s₄ =>
      codeAny (model prog w) A (.compStart (.ListComp elt [⟨.Name x px, iter, [], 0⟩] scope pos) 0 (.ref I) acc { cenv with scope := relabel scope env }) (RR acc cenv.locals) s₄) E s₃) E s₂ := by
  refine wpAny_newObj_type (newEnv_cells1 ?_)
  rw [hcf, hpc]
  dsimp only
  generalize hH1 : s₂.heap.push { cls := .type "list", dict := none, data := .seq ([] : List Value).toArray } = H1
  generalize hH2 : H1.push { cls := .type "dict", data := .dict #[] } = H2
  generalize hH3 : H2.push { cls := .type "cell", data := .cell none } = H3
  have sz1 : H1.objs.size = s₂.heap.objs.size + 1 := by rw [← hH1, Heap.size_push]
  have sz2 : H2.objs.size = s₂.heap.objs.size + 1 + 1 := by rw [← hH2, Heap.size_push, sz1]
  have sz3 : H3.objs.size = s₂.heap.objs.size + 1 + 1 + 1 := by rw [← hH3, Heap.size_push, sz2]
  have up3 : ∀ b o, H2.get? b = some o → H3.get? b = some o := fun b o e => hH3 ▸ Heap.get?_push_of_some _ e
  have up2 : ∀ b o, H1.get? b = some o → H2.get? b = some o := fun b o e => hH2 ▸ Heap.get?_push_of_some _ e
  have up1 : ∀ b o, s₂.heap.get? b = some o → H1.get? b = some o := fun b o e => hH1 ▸ Heap.get?_push_of_some _ e
  have old : ∀ b o, s₂.heap.get? b = some o → H3.get? b = some o := fun b o e => up3 _ _ (up2 _ _ (up1 _ _ e))
  obtain ⟨D, hD⟩ : ∃ D, s₂.heap.objs.size = D := ⟨_, rfl⟩
  rw [hD] at sz1 sz2 sz3 ⊢
  rw [sz1]
  have hCD : D + 1 ≠ D := Nat.succ_ne_self D
  have gD : H3.get? D = some (LCg.lst []) := up3 _ _ (up2 _ _ (by rw [← hH1, ← hD]; exact Heap.get?_push_size _ rfl))
  have gC : H3.Ns (D + 1) (fun _ => none) := by
    have q : H2.Ns H1.objs.size (fun _ => none) := by rw [← hH2]; exact Heap.Ns.new H1 (.type "dict")
    rw [sz1] at q
    exact q.keeps up3
  have gX : H3.get? (D + 1 + 1) = some { cls := .type "cell", data := .cell none } := by
    have q := Heap.get?_push_size H2 (o := { cls := .type "cell", data := .cell none }) rfl
    rw [hH3, sz2] at q
    exact q
  have hIf : I ∈ fp := W.sub I (List.mem_singleton.mpr rfl)
  have lt : ∀ b, b < s₂.heap.objs.size → b ≠ D ∧ b ≠ D + 1 ∧ b ≠ D + 1 + 1 := fun b hb => by
    rw [hD] at hb
    exact ⟨Nat.ne_of_lt hb, Nat.ne_of_lt (Nat.lt_succ_of_lt hb), Nat.ne_of_lt (Nat.lt_succ_of_lt (Nat.lt_succ_of_lt hb))⟩
  have hfD : ∀ b ∈ fp, b ≠ D ∧ b ≠ D + 1 ∧ b ≠ D + 1 + 1 := fun b hb => lt b (hfp b hb)
  have hI := hfD I hIf
  have hL := lt L F.ns.lt
  have fresh₀ : ∀ a, D ≤ a → h₀.get? a = none := fun a ha => by
    cases e : h₀.get? a with
    | none => rfl
    | some o' =>
      have hlt := Heap.lt_size (F.keep a o' e)
      rw [hD] at hlt
      exact absurd hlt (Nat.not_lt.mpr ha)
  have hD₀ := fresh₀ D (Nat.le_refl _)
  have hC₀ := fresh₀ (D + 1) (Nat.le_succ _)
  have hX₀ := fresh₀ (D + 1 + 1) (Nat.le_succ_of_le (Nat.le_succ _))
  have offn : ∀ p ∈ news, p.1 ≠ D ∧ p.1 ≠ D + 1 ∧ p.1 ≠ D + 1 + 1 := fun p hp => lt p.1 (Heap.lt_size (N p hp).1)
  have hXD : (D + 1 + 1) ≠ D := fun e => Nat.lt_irrefl D (by rw [Nat.add_assoc] at e; exact absurd e (by simp))
  have hXC : (D + 1 + 1) ≠ D + 1 := Nat.succ_ne_self _
  have loop : ∀ s₃ : Shared, s₃ = { s₂ with heap := H3 } →
      codeAny (model prog w) A (.compLoop (.ListComp elt [⟨.Name x px, iter, [], 0⟩] scope pos) 0 (.ref I) (.ref D) (compEnvC scope ((x, D + 1 + 1) :: cl) (D + 1) env)) (RR (.ref D) (D + 1)) s₃ := by
    rintro s₃ rfl
    refine codeAny_compLoop_tests
      (fun k s' => ∃ h' tk i ys oX news', s' = { s₂ with heap := h', toks := tk } ∧ i ≤ n ∧ k = n + 1 - i ∧ ys.length = i ∧ St i h' ∧ Fr h₀ L h' m ∧ h'.Ns (D + 1) (fun _ => none) ∧ News h₀ L h' ((D, LCg.lst ys) :: (D + 1 + 1, oX) :: news') ∧ (∃ c, oX.data = .cell c) ∧
        LCg.Off3 I (D + 1) D ((D + 1 + 1, oX) :: news') ∧ LCg.Off1 (D + 1 + 1) news' ∧ S news' ∧ RestC prog w A h₀ L m env elt x scope cl s₂ S P Fin (n - i) i ys news') ?_ (n + 1)
      ⟨H3, _, 0, [], { cls := .type "cell", data := .cell none }, news, rfl, Nat.zero_le _, rfl, rfl, W.frame _ _ _ hst fun b _ o e => old b o e, F.keeps old, gC, fun p hp => ?_, ⟨_, rfl⟩, ?_, ?_, hS, R⟩
    · rintro k s' ⟨h', tk, i, ys, oX, news', rfl, hi, rfl, hyl, hst', F', hn', N', ⟨c, hoX⟩, off', offX, hS', R'⟩
      by_cases hlt : i < n
      · obtain ⟨j, hj⟩ : ∃ j, n - i = j + 1 := ⟨n - i - 1, by omega⟩
        rw [hj] at R'
        refine W.item i _ _ _ hlt hst' fun v h₂ tk₂ hPv hst₂ hk₂ => ?_
        have off3 := off'.mem
        have N₂ : News h₀ L h₂ ((D, LCg.lst ys) :: (D + 1 + 1, oX) :: news') := LCg.news_but N' hk₂ fun p hp => by
          rcases List.mem_cons.mp hp with rfl | hp
          · exact Ne.symm hI.1
          · exact (off3 p hp).1
        have F₂ := LCg.fr_but F' hk₂ hIL hI₀
        have hcell : h₂.IsCell (D + 1 + 1) c := ⟨oX, (N₂ _ (.tail _ (.head _))).1, hoX⟩
        refine wpAny_assign_Name (wpAny_storeName_cell (c := D + 1 + 1) (by simp [compEnvC, relabel, hkind]) (hx _ _) (by simp [compEnvC]) hcell fun h₃ hc₃ hs₃ => ?_)
        refine wpAny_tests_nil ?_
        simp only [if_true]
        have hst₃ : St (i + 1) h₃ := W.frame _ _ _ hst₂ fun b hb o e => hs₃.extBut b o (hfD b hb).2.2 e
        obtain ⟨oI, heI⟩ := hIo _ _ hst₃
        have hn₃ : h₃.Ns (D + 1) (fun _ => none) := (hn'.at' fun o e => hk₂ _ o (by simpa using Ne.symm hI.2.1) e).sameBut hs₃ (Ne.symm hXC)
        obtain ⟨oC, heC, hoC⟩ := LCg.ns_obj hn₃
        obtain ⟨oX₃, heX, hdX⟩ := hc₃
        have F₃ : Fr h₀ L h₃ m := F₂.change hs₃ (Ne.symm hL.2.2) hX₀
        have N₃ : News h₀ L h₃ ((I, oI) :: (D + 1, oC) :: (D, LCg.lst ys) :: (D + 1 + 1, oX₃) :: news') := fun p hp => by
          rcases List.mem_cons.mp hp with rfl | hp
          · exact ⟨heI, Ne.symm hIL, hI₀⟩
          · rcases List.mem_cons.mp hp with rfl | hp
            · exact ⟨heC, Ne.symm hL.2.1, hC₀⟩
            · rcases List.mem_cons.mp hp with rfl | hp
              · have z := N₂ _ (.head _)
                exact ⟨hs₃.extBut _ _ (Ne.symm hXD) z.1, z.2⟩
              · rcases List.mem_cons.mp hp with rfl | hp
                · exact ⟨heX, Ne.symm hL.2.2, hX₀⟩
                · have z := N₂ p (.tail _ (.tail _ hp))
                  have ox : LCg.Off3 (D + 1 + 1) (D + 1 + 1) (D + 1 + 1) news' := LCg.Off3.of fun q hq => by
                    have : q.1 ≠ D + 1 + 1 := by
                      have aux : ∀ (l : List (Addr × Obj)), LCg.Off1 (D + 1 + 1) l → ∀ q ∈ l, q.1 ≠ D + 1 + 1 := by
                        intro l
                        induction l with
                        | nil => intro _ q hq; cases hq
                        | cons a l ih =>
                          intro h q hq
                          rcases List.mem_cons.mp hq with rfl | hq
                          · exact h.1
                          · exact ih h.2 q hq
                      exact aux _ offX q hq
                    exact ⟨this, this, this⟩
                  exact ⟨hs₃.extBut _ _ (ox.mem p hp).1 z.1, z.2⟩
        have off₃ : LCg.Off3 I (D + 1) D ((D + 1 + 1, oX₃) :: news') := ⟨off'.1, off'.2⟩
        refine wpAny_mono (R' v I oI (D + 1) oC D (D + 1 + 1) oX₃ h₃ _ _ hPv hdX F₃ N₃ off₃ offX ⟨hI.2.1, hI.1, hCD⟩) (fun y s₄ h₄ => ?_) fun _ _ e => e
        obtain ⟨h₄, tk₄, news₄, rfl, F₄, N₄, off₄, offX₄, hS₄, R₄⟩ := h₄
        have zI := (N₄ (I, oI) (.head _)).1
        have zC := (N₄ (D + 1, oC) (.tail _ (.head _))).1
        have zD := (N₄ (D, LCg.lst ys) (.tail _ (.tail _ (.head _)))).1
        have N₄' : News h₀ L h₄ news₄ := fun p hp => N₄ p (.tail _ (.tail _ (.tail _ (.tail _ hp))))
        have N₄x : News h₀ L h₄ ((D + 1 + 1, oX₃) :: news₄) := fun p hp => N₄ p (.tail _ (.tail _ (.tail _ hp)))
        have hst₄ : St (i + 1) h₄ := hSt _ _ _ _ _ hst₃ heI zI F₄.keep N₄' hS₄
        refine append_at (hsz := by show ys.toArray.size ≤ sizeLine; rw [List.size_toArray, hyl]; exact Nat.le_trans hi hsz) zD fun h₅ hs₅ hD₅ => ?_
        have off4 := off₄.mem
        refine ⟨n + 1 - (i + 1), by omega, h₅, tk₄, i + 1, ys ++ [y], oX₃, news₄, rfl, hlt, rfl, by rw [List.length_append, List.length_singleton, hyl], W.frame _ _ _ hst₄ fun b hb o e => hs₅.extBut b o (hfD b hb).1 e, F₄.change hs₅ (Ne.symm hL.1) hD₀,
          (hoC.ns zC).sameBut hs₅ hCD, fun p hp => ?_, ⟨_, hdX⟩, off₄, offX₄, hS₄, ?_⟩
        · rcases List.mem_cons.mp hp with rfl | hp
          · exact ⟨hD₅.trans (congrArg some (LCg.lst_snoc ys y)), Ne.symm hL.1, hD₀⟩
          · exact ⟨hs₅.extBut _ _ (off4 p hp).2.2 (N₄x p hp).1, (N₄x p hp).2⟩
        · rw [show n - (i + 1) = j by omega]
          exact R₄
      · obtain rfl : i = n := Nat.le_antisymm hi (Nat.not_lt.mp hlt)
        rw [Nat.sub_self] at R'
        refine W.done _ _ _ hst' fun h₂ tk₂ hk₂ => ?_
        have off3 := off'.mem
        have N₂ := LCg.news_but N' hk₂ fun p hp => by
          rcases List.mem_cons.mp hp with rfl | hp
          · exact Ne.symm hI.1
          · exact (off3 p hp).1
        exact hRR D (D + 1) h₂ tk₂ _ ys news' (LCg.fr_but F' hk₂ hIL hI₀) (fun p hp => by
          rcases List.mem_cons.mp hp with rfl | hp
          · exact N₂ _ (.head _)
          · exact N₂ p (.tail _ (.tail _ hp))) (LCg.Off3.one off'.2) (hn'.at' fun o e => hk₂ _ o (by simpa using Ne.symm hI.2.1) e) hC₀ hD₀ (Ne.symm hL.2.1) (Ne.symm hL.1) hCD (fun p hp => (off3 p (.tail _ hp)).2.1) R'
    · rcases List.mem_cons.mp hp with rfl | hp
      · exact ⟨gD, Ne.symm hL.1, hD₀⟩
      · rcases List.mem_cons.mp hp with rfl | hp
        · exact ⟨gX, Ne.symm hL.2.2, hX₀⟩
        · exact ⟨old _ _ (N p hp).1, (N p hp).2⟩
    · exact ⟨⟨Ne.symm hI.2.2, hXC, hXD⟩, LCg.Off3.of fun p hp => ⟨off p hp, (offn p hp).2.1, (offn p hp).1⟩⟩
    · have aux : ∀ l : List (Addr × Obj), (∀ p ∈ l, p.1 ≠ D + 1 + 1) → LCg.Off1 (D + 1 + 1) l := by
        intro l
        induction l with
        | nil => intro _; trivial
        | cons a l ih => intro h; exact ⟨h a (.head _), ih fun p hp => h p (.tail _ hp)⟩
      exact aux _ fun p hp => (offn p hp).2.2
  refine codeAny_compStart_list (loop _ rfl) (W.self 0 _ _ _ (W.frame _ _ _ hst fun b _ o e => old b o e) (loop _ rfl))
def SrcCL (prog : Program) (w : World) (A : Around) (h₀ : Heap) (L : Addr) (m : Str → Option Value) (env : Env) (elt : PySem.Expr) (x : Str) (scope : Scope) (cl : List (Str × Addr)) (Fin : Shared → List Value → List (Addr × Obj) → Prop) (xv : Value) (s₁ : Shared) : Prop :=
  ∃ ax its news, xv = .ref ax ∧ A.handled = none ∧ Fr h₀ L s₁.heap m ∧ News h₀ L s₁.heap news ∧ LCg.SrcAt h₀ ax its news ∧ its.size ≤ sizeLine ∧
    ∀ s₂ : Shared, (∃ h, s₂ = { s₁ with heap := h }) → RestC prog w A h₀ L m env elt x scope cl s₂ (LCg.SrcAt h₀ ax its) (fun i v => its[i]? = some v) (Fin s₂) its.size 0 [] news
def SrcCR (prog : Program) (w : World) (A : Around) (h₀ : Heap) (L : Addr) (m : Str → Option Value) (env : Env) (elt : PySem.Expr) (x : Str) (scope : Scope) (cl : List (Str × Addr)) (Fin : Shared → List Value → List (Addr × Obj) → Prop) (xv : Value) (s₁ : Shared) : Prop :=
  ∃ r a b t u v n news, xv = .ref r ∧ A.handled = none ∧ Fr h₀ L s₁.heap m ∧ News h₀ L s₁.heap news ∧ IsRange s₁.heap r a b 1 t u v ∧ Builtin.Range.small a b 1 = true ∧ Builtin.Range.rangeSize a b 1 = ((n : Nat) : Int) ∧ n ≤ sizeLine ∧
    ∀ s₂ : Shared, (∃ h, s₂ = { s₁ with heap := h }) → RestC prog w A h₀ L m env elt x scope cl s₂ (fun _ => True) (fun i v => ∃ t, v = .int (a + (i : Int)) t) (Fin s₂) n 0 [] news
def SrcC (prog : Program) (w : World) (A : Around) (h₀ : Heap) (L : Addr) (m : Str → Option Value) (env : Env) (elt : PySem.Expr) (x : Str) (scope : Scope) (cl : List (Str × Addr)) (Fin : Shared → List Value → List (Addr × Obj) → Prop) (xv : Value) (s₁ : Shared) : Prop :=
  SrcCL prog w A h₀ L m env elt x scope cl Fin xv s₁ ∨ SrcCR prog w A h₀ L m env elt x scope cl Fin xv s₁
theorem SrcC.ledger {elt : PySem.Expr} {x : Str} {scope : Scope} {cl : List (Str × Addr)} {Fin : Shared → List Value → List (Addr × Obj) → Prop} {ax : Addr} {its : Array Value} {k : Nat} {news : List (Addr × Obj)} {s₁ : Shared}
    (hh : A.handled = none) (F : Fr h₀ L s₁.heap m) (N : News h₀ L s₁.heap news) (hm : (ax, ({ cls := .type "list", data := .seq its k } : Obj)) ∈ news) (hsz : its.size ≤ sizeLine)
    (h : ∀ g, RestC prog w A h₀ L m env elt x scope cl { s₁ with heap := g } (LCg.SrcAt h₀ ax its) (fun i v => its[i]? = some v) (Fin { s₁ with heap := g }) its.size 0 [] news) :
    SrcC prog w A h₀ L m env elt x scope cl Fin (.ref ax) s₁ := .inl ⟨ax, its, news, rfl, hh, F, N, .inr ⟨_, hm, rfl, _, rfl⟩, hsz, fun _ ⟨g, e⟩ => e ▸ h g⟩
theorem SrcC.range {elt : PySem.Expr} {x : Str} {scope : Scope} {cl : List (Str × Addr)} {Fin : Shared → List Value → List (Addr × Obj) → Prop} {r : Addr} {a b : Int} {t u v : Tok} {n : Nat} {news : List (Addr × Obj)} {s₁ : Shared}
    (hh : A.handled = none) (F : Fr h₀ L s₁.heap m) (N : News h₀ L s₁.heap news) (hr : IsRange s₁.heap r a b 1 t u v) (hsm : Builtin.Range.small a b 1 = true) (hn : Builtin.Range.rangeSize a b 1 = ((n : Nat) : Int)) (hsz : n ≤ sizeLine)
    (h : ∀ g, RestC prog w A h₀ L m env elt x scope cl { s₁ with heap := g } (fun _ => True) (fun i v => ∃ t, v = .int (a + (i : Int)) t) (Fin { s₁ with heap := g }) n 0 [] news) :
    SrcC prog w A h₀ L m env elt x scope cl Fin (.ref r) s₁ := .inr ⟨r, a, b, t, u, v, n, news, rfl, hh, F, N, hr, hsm, hn, hsz, fun _ ⟨g, e⟩ => e ▸ h g⟩
theorem ListComp_C {elt iter : PySem.Expr} {x : Str} {px : Pos} {scope : Scope} {cl : List (Str × Addr)} {pos : Pos} {Q : Value → Shared → Prop} (F₀ : Fr h₀ L s.heap m)
    (hclos : closureFor scope env = pure cl) (hkind : scope.kind = .function)
    (hnames : ∀ y ∈ scope.names, y.2 = .local → scope.names.lookup y.1 = some .local)
    (hcf : ∀ k acc, cellsFrom k scope.names acc = (x, k) :: acc) (hpc : ∀ h : Heap, pushCells h scope.names = h.push { cls := .type "cell", data := .cell none })
    (hx : ∀ X C, (compEnvC scope ((x, X) :: cl) C env).kindOf x = some .cell)
    (h : wpAny (model prog w) A (eval iter env) (SrcC prog w A h₀ L m env elt x scope cl (fun s₂ => LCg.FinE h₀ L m s₂ Q)) E s)
    (hs : ∀ x, foldedSetIterable iter env x = pure x := by intro _; rfl) :
    wpAny (model prog w) A (eval (.ListComp elt [⟨.Name x px, iter, [], 0⟩] scope pos) env) Q E s := by
  rw [eval_ListComp]
  refine wpAny_comprehension_free (use := none) rfl hs hclos hkind hnames (wpAny_mono h (fun xv s₁ h₁ => ?_) fun _ _ e => e)
  rcases h₁ with ⟨ax, its, news, rfl, hh, F, N, S, hsz, R⟩ | ⟨r, a, b, t, u, v, n, news, rfl, hh, F, N, hr, hsm, hn, hsz, R⟩
  · have hl := S.list F.keep N
    have hlt : ax < s₁.heap.objs.size := by obtain ⟨_, e, _⟩ := hl; exact Heap.lt_size e
    refine wpAny_pyIter_list hl ?_
    have up : ∀ b o, s₁.heap.get? b = some o → (s₁.heap.push { cls := .type "list_iterator", data := .fields #[.ref ax, .int 0 0] }).get? b = some o := fun b o e => Heap.get?_push_of_some _ e
    refine block_C (Walks.list hh s₁.heap.objs.size ax (Nat.ne_of_lt hlt) its) hsz (fun i h st => by obtain ⟨o, e, _⟩ := st.1; exact ⟨o, e⟩) LCg.list_st hcf hpc hkind hx ⟨⟨_, Heap.get?_push_size _ rfl, rfl, rfl⟩, hl.push _⟩ (fun b hb => ?_)
      (F.keeps up) (N.grown up) (Nat.ne_of_lt F.ns.lt) (next_is_new F) (fun p hp => Nat.ne_of_lt (Heap.lt_size (N p hp).1)) S (R _ ⟨_, rfl⟩) ?_
    · show b < (s₁.heap.push _).objs.size
      rw [Heap.size_push]
      rcases List.mem_cons.mp hb with rfl | hb
      · exact Nat.lt_succ_self _
      · rw [List.mem_singleton.mp hb]; exact Nat.lt_succ_of_lt hlt
    · intro D C h tk m' ys news' F' N' o1 hn hC₀ hD₀ hCL hDL hCD offC fin
      refine ⟨m', hn, fun h'' hs'' => fin D h'' tk (F'.change hs'' hCL hC₀) (fun p hp => ?_) o1⟩
      refine ⟨hs''.extBut _ _ ?_ (N' p hp).1, (N' p hp).2⟩
      rcases List.mem_cons.mp hp with rfl | hp
      · exact Ne.symm hCD
      · exact offC p hp
  · refine wpAny_pyIter_range hr hsm ?_
    refine block_C (LCg.range_walks hh a n) hsz (fun i h st => ⟨_, st⟩) LCg.range_st hcf hpc hkind hx (by show IsRangeIter _ _ _ _ _; rw [hn]; simpa using Heap.get?_push_size _ rfl) (fun b hb => ?_)
      (F.keeps fun _ _ e => Heap.get?_push_of_some _ e) (N.grown fun _ _ e => Heap.get?_push_of_some _ e) (Nat.ne_of_lt F.ns.lt) (next_is_new F) (fun p hp => Nat.ne_of_lt (Heap.lt_size (N p hp).1)) trivial (R _ ⟨_, rfl⟩) ?_
    · rw [List.mem_singleton.mp hb]
      show s₁.heap.objs.size < (s₁.heap.push _).objs.size
      rw [Heap.size_push]; exact Nat.lt_succ_self _
    · intro D C h tk m' ys news' F' N' o1 hn hC₀ hD₀ hCL hDL hCD offC fin
      refine ⟨m', hn, fun h'' hs'' => fin D h'' tk (F'.change hs'' hCL hC₀) (fun p hp => ?_) o1⟩
      refine ⟨hs''.extBut _ _ ?_ (N' p hp).1, (N' p hp).2⟩
      rcases List.mem_cons.mp hp with rfl | hp
      · exact Ne.symm hCD
      · exact offC p hp
theorem Assign_ListComp_C {elt iter : PySem.Expr} {x y : Str} {px py : Pos} {scope : Scope} {cl : List (Str × Addr)} {pos spos : Pos} {Q : Flow → Shared → Prop} (F₀ : Fr h₀ L s.heap m) (hLe : env.locals = L)
    (hsw : swapsWith (.ListComp elt [⟨.Name x px, iter, [], 0⟩] scope pos) (some (.Name y py)) spos.line env = pure true)
    (hclos : closureFor scope env = pure cl) (hkind : scope.kind = .function)
    (hnames : ∀ z ∈ scope.names, z.2 = .local → scope.names.lookup z.1 = some .local)
    (hcf : ∀ k acc, cellsFrom k scope.names acc = (x, k) :: acc) (hpc : ∀ h : Heap, pushCells h scope.names = h.push { cls := .type "cell", data := .cell none })
    (hx : ∀ X C, (compEnvC scope ((x, X) :: cl) C env).kindOf x = some .cell)
    (hy : env.kindOf y = some .local) (hp : (env.scope.kind == .class || (env.scope.kind == .module && env.locals != env.globals)) = false)
    (h : wpAny (model prog w) A (eval iter env) (SrcC prog w A h₀ L m env elt x scope cl (fun s₂ => LCg.FinA h₀ L m s₂ y Q)) E s)
    (hs : ∀ x, foldedSetIterable iter env x = pure x := by intro _; rfl) :
    wpAny (model prog w) A (exec (.Assign [.Name y py] (.ListComp elt [⟨.Name x px, iter, [], 0⟩] scope pos) spos) env) Q E s := by
  subst hLe
  rw [exec_Assign_Name_used _ _ _ _ hsw]
  refine wpAny_bind (wpAny_standAt (wpAny_bind ?_))
  show wpAny _ A (do let _ ← comprehension (.ListComp elt [⟨.Name x px, iter, [], 0⟩] scope pos) scope env _ (newList []) false (eval iter env) (some (assign (.Name y py) env))) _ _ s
  refine wpAny_bind (wpAny_mono (wpAny_comprehension_free (use := some (assign (.Name y py) env)) (Q := fun _ s' => Q .next s') rfl hs hclos hkind hnames
    (wpAny_mono h (fun xv s₁ h₁ => ?_) fun _ _ e => e)) (fun _ s' hq => wpAny_pure (wpAny_pure hq)) fun _ _ e => e)
  rcases h₁ with ⟨ax, its, news, rfl, hh, F, N, S, hsz, R⟩ | ⟨r, a, b, t, u, v, n, news, rfl, hh, F, N, hr, hsm, hn, hsz, R⟩
  · have hl := S.list F.keep N
    have hlt : ax < s₁.heap.objs.size := by obtain ⟨_, e, _⟩ := hl; exact Heap.lt_size e
    refine wpAny_pyIter_list hl ?_
    have up : ∀ b o, s₁.heap.get? b = some o → (s₁.heap.push { cls := .type "list_iterator", data := .fields #[.ref ax, .int 0 0] }).get? b = some o := fun b o e => Heap.get?_push_of_some _ e
    refine block_C (Walks.list hh s₁.heap.objs.size ax (Nat.ne_of_lt hlt) its) hsz (fun i h st => by obtain ⟨o, e, _⟩ := st.1; exact ⟨o, e⟩) LCg.list_st hcf hpc hkind hx ⟨⟨_, Heap.get?_push_size _ rfl, rfl, rfl⟩, hl.push _⟩ (fun b hb => ?_)
      (F.keeps up) (N.grown up) (Nat.ne_of_lt F.ns.lt) (next_is_new F) (fun p hp => Nat.ne_of_lt (Heap.lt_size (N p hp).1)) S (R _ ⟨_, rfl⟩) ?_
    · show b < (s₁.heap.push _).objs.size
      rw [Heap.size_push]
      rcases List.mem_cons.mp hb with rfl | hb
      · exact Nat.lt_succ_self _
      · rw [List.mem_singleton.mp hb]; exact Nat.lt_succ_of_lt hlt
    · intro D C h' tk m' ys news' F' N' o1 hn hC₀ hD₀ hCL hDL hCD offC fin
      show wpAny _ A (assign (.Name y py) env (.ref D)) _ _ _
      refine wpAny_assign_Name (wpAny_storeName_local hy F'.ns (fun h₂ hn₂ hs₂ => ?_) hp)
      have hL₀ : h₀.get? env.locals = none := Heap.get?_none_of_le F'.above
      have F₂ : Fr h₀ env.locals h₂ (fun z => if z = y then some (.ref D) else m z) := ⟨hn₂, fun b o e => hs₂.extBut b o (fun q => by rw [q, hL₀] at e; cases e) (F'.keep b o e), F'.above⟩
      refine ⟨m', hn.sameBut hs₂ hCL, fun h'' hs'' => fin D h'' _ (F₂.change hs'' hCL hC₀) (fun p hp => ?_) o1⟩
      have z : h₂.get? p.1 = some p.2 := hs₂.extBut _ _ (N' p hp).2.1 (N' p hp).1
      refine ⟨hs''.extBut _ _ ?_ z, (N' p hp).2⟩
      rcases List.mem_cons.mp hp with rfl | hp
      · exact Ne.symm hCD
      · exact offC p hp
  · refine wpAny_pyIter_range hr hsm ?_
    refine block_C (LCg.range_walks hh a n) hsz (fun i h st => ⟨_, st⟩) LCg.range_st hcf hpc hkind hx (by show IsRangeIter _ _ _ _ _; rw [hn]; simpa using Heap.get?_push_size _ rfl) (fun b hb => ?_)
      (F.keeps fun _ _ e => Heap.get?_push_of_some _ e) (N.grown fun _ _ e => Heap.get?_push_of_some _ e) (Nat.ne_of_lt F.ns.lt) (next_is_new F) (fun p hp => Nat.ne_of_lt (Heap.lt_size (N p hp).1)) trivial (R _ ⟨_, rfl⟩) ?_
    · rw [List.mem_singleton.mp hb]
      show s₁.heap.objs.size < (s₁.heap.push _).objs.size
      rw [Heap.size_push]; exact Nat.lt_succ_self _
    · intro D C h' tk m' ys news' F' N' o1 hn hC₀ hD₀ hCL hDL hCD offC fin
      show wpAny _ A (assign (.Name y py) env (.ref D)) _ _ _
      refine wpAny_assign_Name (wpAny_storeName_local hy F'.ns (fun h₂ hn₂ hs₂ => ?_) hp)
      have hL₀ : h₀.get? env.locals = none := Heap.get?_none_of_le F'.above
      have F₂ : Fr h₀ env.locals h₂ (fun z => if z = y then some (.ref D) else m z) := ⟨hn₂, fun b o e => hs₂.extBut b o (fun q => by rw [q, hL₀] at e; cases e) (F'.keep b o e), F'.above⟩
      refine ⟨m', hn.sameBut hs₂ hCL, fun h'' hs'' => fin D h'' _ (F₂.change hs'' hCL hC₀) (fun p hp => ?_) o1⟩
      have z : h₂.get? p.1 = some p.2 := hs₂.extBut _ _ (N' p hp).2.1 (N' p hp).1
      refine ⟨hs''.extBut _ _ ?_ z, (N' p hp).2⟩
      rcases List.mem_cons.mp hp with rfl | hp
      · exact Ne.symm hCD
      · exact offC p hp
theorem RestC.zero {elt : PySem.Expr} {x : Str} {scope : Scope} {cl : List (Str × Addr)} {S : List (Addr × Obj) → Prop} {P : Nat → Value → Prop} {Fin : List Value → List (Addr × Obj) → Prop} {i : Nat} {ys : List Value} {news : List (Addr × Obj)}
    (h : Fin ys news) : RestC prog w A h₀ L m env elt x scope cl s S P Fin 0 i ys news := h
theorem RestC.succ {elt : PySem.Expr} {x : Str} {scope : Scope} {cl : List (Str × Addr)} {S : List (Addr × Obj) → Prop} {P : Nat → Value → Prop} {Fin : List Value → List (Addr × Obj) → Prop} {k i : Nat} {ys : List Value} {news : List (Addr × Obj)}
    (h : ∀ v I oI C oC D X oX h tk (E' : Value → Shared → Prop), P i v → oX.data = .cell (some v) → Fr h₀ L h m → News h₀ L h ((I, oI) :: (C, oC) :: (D, LCg.lst ys) :: (X, oX) :: news) → LCg.Off3 I C D ((X, oX) :: news) → LCg.Off1 X news → (@Ne Nat I C ∧ @Ne Nat I D ∧ @Ne Nat C D) →
      wpAny (model prog w) A (eval elt (compEnvC scope ((x, X) :: cl) C env)) (EndC h₀ L m { s with heap := h, toks := tk } I oI C oC D (LCg.lst ys) X oX S (fun y news' => RestC prog w A h₀ L m env elt x scope cl s S P Fin k (i + 1) (ys ++ [y]) news')) E' { s with heap := h, toks := tk }) :
    RestC prog w A h₀ L m env elt x scope cl s S P Fin (k + 1) i ys news := h
end
end Mine
end
section
open PySem PySem.W PyProof.Rows PySem.Calls PySem.Spec
set_option Elab.async false
set_option maxRecDepth 100000
set_option maxHeartbeats 8000000
namespace Mine
theorem off1_ofD {D : Addr} : ∀ {l : List (Addr × Obj)}, (∀ p ∈ l, p.1 ≠ D) → LCg.Off1 D l
  | [], _ => trivial
  | a :: _, h => ⟨h a (.head _), off1_ofD fun p hp => h p (.tail _ hp)⟩
theorem endC_del {h₀ : Heap} {L I C D X : Addr} {m : Str → Option Value} {s₁ : Shared} {oI oC oD oX : Obj} {S : List (Addr × Obj) → Prop} {rest : Value → List (Addr × Obj) → Prop} {y : Value} {h' : Heap} {tk : Nat} {all l1 l2 l3 news' : List (Addr × Obj)}
    (F : Fr h₀ L h' m) (N : News h₀ L h' all) (D1 : Del I oI all l1) (D2 : Del C oC l1 l2) (D3 : Del D oD l2 l3) (D4 : Del X oX l3 news') (hS : S news') (r : rest y news') :
    EndC h₀ L m s₁ I oI C oC D oD X oX S rest y { s₁ with heap := h', toks := tk } := by
  obtain ⟨a1, b1, c1⟩ := D1.facts
  obtain ⟨a2, b2, c2⟩ := D2.facts
  obtain ⟨a3, b3, c3⟩ := D3.facts
  obtain ⟨a4, b4, c4⟩ := D4.facts
  refine ⟨h', tk, news', rfl, F, fun p hp => ?_, LCg.Off3.of fun p hp => ?_, ?_, hS, r⟩
  · rcases List.mem_cons.mp hp with rfl | hp
    · exact N _ a1
    · rcases List.mem_cons.mp hp with rfl | hp
      · exact N _ (b1 _ a2)
      · rcases List.mem_cons.mp hp with rfl | hp
        · exact N _ (b1 _ (b2 _ a3))
        · rcases List.mem_cons.mp hp with rfl | hp
          · exact N _ (b1 _ (b2 _ (b3 _ a4)))
          · exact N _ (b1 _ (b2 _ (b3 _ (b4 _ hp))))
  · rcases List.mem_cons.mp hp with rfl | hp
    · exact ⟨c1 _ (b2 _ (b3 _ a4)), c2 _ (b3 _ a4), c3 _ a4⟩
    · exact ⟨c1 p (b2 p (b3 p (b4 p hp))), c2 p (b3 p (b4 p hp)), c3 p (b4 p hp)⟩
  · exact off1_ofD c4
theorem endC_keep {h₀ : Heap} {L I C D X : Addr} {m : Str → Option Value} {s₁ : Shared} {oI oC oD oX : Obj} {S : List (Addr × Obj) → Prop} {rest : Value → List (Addr × Obj) → Prop} {a : Addr} {o : Obj} {h' : Heap} {tk : Nat} {all tail : List (Addr × Obj)}
    (F : Fr h₀ L h' m) (N : News h₀ L h' all) (O : LCg.Off3 I C D ((X, oX) :: tail)) (O1 : LCg.Off1 X tail) (hk : (a, o) ∈ all) (h1 : @Ne Nat a I) (h2 : @Ne Nat a C) (h3 : @Ne Nat a D) (h4 : @Ne Nat a X) (hs : ∀ p ∈ (I, oI) :: (C, oC) :: (D, oD) :: (X, oX) :: tail, p ∈ all) (hS : S ((a, o) :: tail)) (r : rest (.ref a) ((a, o) :: tail)) :
    EndC h₀ L m s₁ I oI C oC D oD X oX S rest (.ref a) { s₁ with heap := h', toks := tk } := by
  refine ⟨h', tk, (a, o) :: tail, rfl, F, fun p hp => ?_, ⟨O.1, ⟨h1, h2, h3⟩, O.2⟩, ⟨h4, O1⟩, hS, r⟩
  rcases List.mem_cons.mp hp with rfl | hp
  · exact N _ (hs _ (.head _))
  · rcases List.mem_cons.mp hp with rfl | hp
    · exact N _ (hs _ (.tail _ (.head _)))
    · rcases List.mem_cons.mp hp with rfl | hp
      · exact N _ (hs _ (.tail _ (.tail _ (.head _))))
      · rcases List.mem_cons.mp hp with rfl | hp
        · exact N _ (hs _ (.tail _ (.tail _ (.tail _ (.head _)))))
        · rcases List.mem_cons.mp hp with rfl | hp
          · exact N _ hk
          · exact N _ (hs _ (.tail _ (.tail _ (.tail _ (.tail _ hp)))))
theorem RestC.lit {prog : Program} {w : World} {A : Around} {s : Shared} {h₀ : Heap} {L : Addr} {m : Str → Option Value} {env : Env} {elt : PySem.Expr} {x : Str} {scope : Scope} {cl : List (Str × Addr)} {S : List (Addr × Obj) → Prop} {P : Nat → Value → Prop} {Fin : List Value → List (Addr × Obj) → Prop} {k i : Nat} {ys : List Value} {news : List (Addr × Obj)} (n : Nat) (e : k = n)
    (h : RestC prog w A h₀ L m env elt x scope cl s S P Fin n i ys news) : RestC prog w A h₀ L m env elt x scope cl s S P Fin k i ys news := by subst e; exact h
def Out2 (q11 q12 q21 q22 : Rat) (news news' : List (Addr × Obj)) (r : Value) : Prop := ∃ (D : Addr) (c : Nat) (r1 : Addr) (c1 : Nat) (r2 : Addr) (c2 : Nat) (a11 : Addr) (s11 u11 : Tok) (k11 : Nat) (a12 : Addr) (s12 u12 : Tok) (k12 : Nat) (a21 : Addr) (s21 u21 : Tok) (k21 : Nat) (a22 : Addr) (s22 u22 : Tok) (k22 : Nat),
  r = .ref D ∧ news' = [(D, listObj [.ref r1, .ref r2] c), (r1, listObj [.ref a11, .ref a12] c1), (r2, listObj [.ref a21, .ref a22] c2), (a11, tup2 q11.num s11 q11.den u11 k11), (a12, tup2 q12.num s12 q12.den u12 k12), (a21, tup2 q21.num s21 q21.den u21 k21), (a22, tup2 q22.num s22 q22.den u22 k22)] ++ news ∧ (∀ p ∈ [(D, listObj [.ref r1, .ref r2] c), (r1, listObj [.ref a11, .ref a12] c1), (r2, listObj [.ref a21, .ref a22] c2), (a11, tup2 q11.num s11 q11.den u11 k11), (a12, tup2 q12.num s12 q12.den u12 k12), (a21, tup2 q21.num s21 q21.den u21 k21), (a22, tup2 q22.num s22 q22.den u22 k22)], ∀ q ∈ news, q.1 ≠ p.1)
theorem out2_end {h₀ h' : Heap} {L : Addr} {m : Str → Option Value} {s : Shared} {Q : Value → Shared → Prop} {news all : List (Addr × Obj)} {tk : Nat} {q11 q12 q21 q22 : Rat} {D : Addr} {c : Nat} {r1 : Addr} {c1 : Nat} {r2 : Addr} {c2 : Nat} {a11 : Addr} {s11 u11 : Tok} {k11 : Nat} {a12 : Addr} {s12 u12 : Tok} {k12 : Nat} {a21 : Addr} {s21 u21 : Tok} {k21 : Nat} {a22 : Addr} {s22 u22 : Tok} {k22 : Nat}
    (hret : ∀ r news' h' tk', Fr h₀ L h' m → News h₀ L h' news' → Out2 q11 q12 q21 q22 news news' r → Q r { s with heap := h', toks := tk' })
    (F : Fr h₀ L h' m) (N : News h₀ L h' all) (hs : ∀ p ∈ news, p ∈ all) (hD : (D, listObj [.ref r1, .ref r2] c) ∈ all) (hr1 : (r1, listObj [.ref a11, .ref a12] c1) ∈ all) (hr2 : (r2, listObj [.ref a21, .ref a22] c2) ∈ all) (h11 : (a11, tup2 q11.num s11 q11.den u11 k11) ∈ all) (h12 : (a12, tup2 q12.num s12 q12.den u12 k12) ∈ all) (h21 : (a21, tup2 q21.num s21 q21.den u21 k21) ∈ all) (h22 : (a22, tup2 q22.num s22 q22.den u22 k22) ∈ all) (wD : ∀ q ∈ news, q.1 ≠ D) (wr1 : ∀ q ∈ news, q.1 ≠ r1) (wr2 : ∀ q ∈ news, q.1 ≠ r2) (wa11 : ∀ q ∈ news, q.1 ≠ a11) (wa12 : ∀ q ∈ news, q.1 ≠ a12) (wa21 : ∀ q ∈ news, q.1 ≠ a21) (wa22 : ∀ q ∈ news, q.1 ≠ a22) : Q (.ref D) { s with heap := h', toks := tk } := by
  have inA : ∀ p ∈ [(D, listObj [.ref r1, .ref r2] c), (r1, listObj [.ref a11, .ref a12] c1), (r2, listObj [.ref a21, .ref a22] c2), (a11, tup2 q11.num s11 q11.den u11 k11), (a12, tup2 q12.num s12 q12.den u12 k12), (a21, tup2 q21.num s21 q21.den u21 k21), (a22, tup2 q22.num s22 q22.den u22 k22)], p ∈ all := fun p hp => by
    simp only [List.mem_cons, List.not_mem_nil, or_false] at hp
    rcases hp with rfl | rfl | rfl | rfl | rfl | rfl | rfl
    · exact hD
    · exact hr1
    · exact hr2
    · exact h11
    · exact h12
    · exact h21
    · exact h22
  have aw : ∀ p ∈ [(D, listObj [.ref r1, .ref r2] c), (r1, listObj [.ref a11, .ref a12] c1), (r2, listObj [.ref a21, .ref a22] c2), (a11, tup2 q11.num s11 q11.den u11 k11), (a12, tup2 q12.num s12 q12.den u12 k12), (a21, tup2 q21.num s21 q21.den u21 k21), (a22, tup2 q22.num s22 q22.den u22 k22)], ∀ q ∈ news, q.1 ≠ p.1 := fun p hp q hq => by
    simp only [List.mem_cons, List.not_mem_nil, or_false] at hp
    rcases hp with rfl | rfl | rfl | rfl | rfl | rfl | rfl
    · exact wD q hq
    · exact wr1 q hq
    · exact wr2 q hq
    · exact wa11 q hq
    · exact wa12 q hq
    · exact wa21 q hq
    · exact wa22 q hq
  refine hret (.ref D) ([(D, listObj [.ref r1, .ref r2] c), (r1, listObj [.ref a11, .ref a12] c1), (r2, listObj [.ref a21, .ref a22] c2), (a11, tup2 q11.num s11 q11.den u11 k11), (a12, tup2 q12.num s12 q12.den u12 k12), (a21, tup2 q21.num s21 q21.den u21 k21), (a22, tup2 q22.num s22 q22.den u22 k22)] ++ news) h' tk F (fun p hp => ?_) ⟨_, _, _, _, _, _, _, _, _, _, _, _, _, _, _, _, _, _, _, _, _, _, rfl, rfl, aw⟩
  rcases List.mem_append.mp hp with hp | hp
  · exact N _ (inA p hp)
  · exact N _ (hs _ hp)
local macro_rules | `(tactic| k_mem) => `(tactic| ((repeat' (first | (with_reducible exact List.mem_cons_self ..) | ktr_member | (with_reducible refine List.mem_cons_of_mem _ ?_))); done))
local macro_rules | `(tactic| mul_fits) => `(tactic| exact Fit.mul (by assumption) (by assumption))
local macro_rules | `(tactic| k_lt $h:ident) => `(tactic| replace $h := allLt_of $h)
local macro_rules | `(tactic| k_ne) => `(tactic| ((refine neN ?_); (try dsimp only); first | (with_reducible assumption) | (refine' Ne3.ci ?oa; (case oa => with_reducible assumption)) | (refine' Ne3.di ?oa; (case oa => with_reducible assumption)) | (refine' Ne3.dc ?oa; (case oa => with_reducible assumption)) | (refine' ne_lt ?oa ?ob; (case oa => with_reducible assumption); (case ob => k_mem)) | (refine' ne_lt' ?oa ?ob; (case oa => with_reducible assumption); (case ob => k_mem)) | (refine' ne_off1 ?oa ?ob; (case oa => with_reducible assumption); (case ob => k_mem)) | (refine' ne_off1' ?oa ?ob; (case oa => with_reducible assumption); (case ob => k_mem)) | (refine' ne_off3I ?oa ?ob; (case oa => with_reducible assumption); (case ob => k_mem)) | (refine' ne_off3C ?oa ?ob; (case oa => with_reducible assumption); (case ob => k_mem)) | (refine' ne_off3D ?oa ?ob; (case oa => with_reducible assumption); (case ob => k_mem)) | (refine' ne_off3I' ?oa ?ob; (case oa => with_reducible assumption); (case ob => k_mem)) | (refine' ne_off3C' ?oa ?ob; (case oa => with_reducible assumption); (case ob => k_mem)) | (refine' ne_off3D' ?oa ?ob; (case oa => with_reducible assumption); (case ob => k_mem)) | omega))
local macro_rules | `(tactic| k_all) => `(tactic| ((repeat' (first | (with_reducible refine' List.forall_mem_cons.mpr ⟨?_, ?_⟩) | exact List.forall_mem_nil _ | (refine' ne_id ?oa; (case oa => with_reducible assumption)) | (refine' tail_lt ?oa ?ob; (case oa => with_reducible assumption); (case ob => kcj_all)) | (refine' tail_off1 ?oa ?ob; (case oa => with_reducible assumption); (case ob => kcj_all)) | (refine' tail_off3I ?oa ?ob; (case oa => with_reducible assumption); (case ob => kcj_all)) | (refine' tail_off3C ?oa ?ob; (case oa => with_reducible assumption); (case ob => kcj_all)) | (refine' tail_off3D ?oa ?ob; (case oa => with_reducible assumption); (case ob => kcj_all)) | (refine' ne_of_allLt_le ?oa ?ob; (case oa => with_reducible assumption); (case ob => omega)) | k_ne)); done))
local macro_rules | `(tactic| k_upd) => `(tactic| ((repeat' (first | (with_reducible refine' Del.head ?_) | (with_reducible refine' Del.tail ?_ ?_) | (with_reducible refine' Upd.head ?_) | (with_reducible refine' Upd.tail ?_ ?_) | (with_reducible refine' UpdF.head ?_) | (with_reducible refine' UpdF.tail ?_ ?_) | k_all | k_ne)); done))
local macro_rules | `(tactic| kcj_all) => `(tactic| ((repeat' (first | (with_reducible exact mem_same) | exact List.forall_mem_nil _ | (with_reducible refine' List.forall_mem_cons.mpr ⟨?_, ?_⟩) | (with_reducible refine' mem_step ?_) | k_mem)); done))
local macro_rules | `(tactic| walk_at "exec For Name Name cons nil") => `(tactic| (k_here; (rename Fr _ _ _ _ => lF'); (with_unfolding_all refine' For_invVF lF' ?k1 ?k2 ?_; (case k1 => exact rfl); (case k2 => exact rfl); k_whole); l_hasStore))
local macro_rules | `(tactic| walk_at "pyIter ref") => `(tactic| ((with_reducible show wpAny _ _ (pyIter (Value.ref _)) (fun it s₂ => LoopAtV _ _ _ _ _ _ _ _ _ it s₂) _ _); (rename Fr _ _ _ _ => lF'); (rename News _ _ _ _ => lN'); (with_unfolding_all refine' iter_listUnr ?hh lF' lN' ?hm ?hc ?hd ?_; (case hh => exact rfl); (case hm => k_mem); (case hc => exact rfl); (case hd => exact rfl)); clear lF' lN'; intro i' l1; (have l1' := allLt_of l1); clear l1))
local macro_rules | `(tactic| walk_at "UnrEnd") => `(tactic| (k_here; k_dflt (refine' unr_end ?F ?N ?D ?_; (case F => k_asm); (case N => k_asm); (case D => k_upd)); (try (refine ⟨by k_mem, ?_⟩)))) 
local macro_rules | `(tactic| walk_at "CompRest") => `(tactic| (with_unfolding_all first
  | (refine LCg.CompRest.succ ?_; intro v' I' oI' C' oC' D' m' h' tk' E' hv' hC' hx' F' N' off' ne'; (first | lcg_open hv' | (obtain ⟨t9', hv9'⟩ := hv'; subst hv9')); (replace ne' := Ne3.mk' ne'))
  | refine LCg.CompRest.zero ?_))
local macro_rules | `(tactic| walk_at "CompEnd") => `(tactic| (k_here; k_dflt (refine' comp_keep ?F ?N ?O ?K ?h1 ?h2 ?h3 ?hs ?S ?_; (case F => k_asm); (case N => k_asm); (case O => with_reducible assumption); (case K => k_mem); (case h1 => k_ne); (case h2 => k_ne); (case h3 => k_ne); (case hs => ((repeat' (first | (with_reducible exact mem_same) | (with_reducible refine' mem_step ?_))); done)); (case S => lcg_src))))
local macro_rules | `(tactic| walk_at "FinE") => `(tactic| ((unfold LCg.FinE); intro D' h' tk' F' N' o1'; (try simp only [List.nil_append, List.cons_append] at N'); (try dsimp only)))
local macro_rules | `(tactic| walk_at "FinA") => `(tactic| ((unfold LCg.FinA); intro D' h' tk' F' N' o1'; (try simp only [List.nil_append, List.cons_append] at N'); (try dsimp only)))
local macro_rules | `(tactic| walk_at "UnrEnd") => `(tactic| (k_here; k_dflt (refine' unr_keep (o := tup2 _ _ _ _ _) ?F ?N ?hs ?K ?h1 ?off ?_; (case F => k_asm); (case N => k_asm); (case hs => ((repeat' (first | (with_reducible exact mem_same) | (with_reducible refine' mem_step ?_))); done)); (case K => k_mem); (case h1 => k_ne); (case off => k_all)); (try (refine ⟨by k_mem, ?_⟩))))
local macro_rules | `(tactic| walk_at "call ref") => `(tactic| (k_here; (with_reducible show wpAny _ _ (call (Value.ref 74) _) _ _ _); k_dflt (refine' sum_use ?k1 ?k2 ?k3 ?k4 ?k5 ?kK ?kd ?ku ?g ?hx ?hy ?i1 ?i2 ?i3 ?i4 ?hp ?hq ?hs ?_; (case k1 => k_asm); (case k2 => k_asm); (case k3 => k_asm); (case k4 => k_asm); (case k5 => k_asm); (case kK => first | exact rfl | assumption); (case kd => ktr_room); (case ku => ktr_units); (case g => assumption); (case hx => k_mem); (case hy => k_mem); (case i1 => first | exact rfl | exact num0 | exact num1); (case i2 => first | exact rfl | exact den0 | exact den1); (case i3 => first | exact rfl | exact num0 | exact num1); (case i4 => first | exact rfl | exact den0 | exact den1); (case hp => first | (with_reducible assumption) | exact Sz.zero | exact Sz.one); (case hq => first | (with_reducible assumption) | exact Sz.zero | exact Sz.one); (case hs => omega); k_whole); intro D' u1' u2' c' h' tk' F' N' l1' sz'; (try dsimp only); (try k_fold)))
local macro_rules | `(tactic| walk_at "call ref") => `(tactic| (k_here; (with_reducible show wpAny _ _ (call (Value.ref 81) _) _ _ _); k_dflt (refine' diff_use ?k1 ?k2 ?k3 ?k4 ?k5 ?kK ?kd ?ku ?g ?hx ?hy ?i1 ?i2 ?i3 ?i4 ?hp ?hq ?hs ?_; (case k1 => k_asm); (case k2 => k_asm); (case k3 => k_asm); (case k4 => k_asm); (case k5 => k_asm); (case kK => first | exact rfl | assumption); (case kd => ktr_room); (case ku => ktr_units); (case g => assumption); (case hx => k_mem); (case hy => k_mem); (case i1 => first | exact rfl | exact num0 | exact num1); (case i2 => first | exact rfl | exact den0 | exact den1); (case i3 => first | exact rfl | exact num0 | exact num1); (case i4 => first | exact rfl | exact den0 | exact den1); (case hp => first | (with_reducible assumption) | exact Sz.zero | exact Sz.one); (case hq => first | (with_reducible assumption) | exact Sz.zero | exact Sz.one); (case hs => omega); k_whole); intro D' u1' u2' c' h' tk' F' N' l1' sz'; (try dsimp only); (try k_fold)))
local macro_rules | `(tactic| walk_at "call ref") => `(tactic| (k_here; (with_reducible show wpAny _ _ (call (Value.ref 88) _) _ _ _); k_dflt (refine' prod_use ?k1 ?k2 ?k3 ?k4 ?k5 ?kK ?kd ?ku ?g ?hx ?hy ?i1 ?i2 ?i3 ?i4 ?hp ?hq ?hs ?_; (case k1 => k_asm); (case k2 => k_asm); (case k3 => k_asm); (case k4 => k_asm); (case k5 => k_asm); (case kK => first | exact rfl | assumption); (case kd => ktr_room); (case ku => ktr_units); (case g => assumption); (case hx => k_mem); (case hy => k_mem); (case i1 => first | exact rfl | exact num0 | exact num1); (case i2 => first | exact rfl | exact den0 | exact den1); (case i3 => first | exact rfl | exact num0 | exact num1); (case i4 => first | exact rfl | exact den0 | exact den1); (case hp => first | (with_reducible assumption) | exact Sz.zero | exact Sz.one); (case hq => first | (with_reducible assumption) | exact Sz.zero | exact Sz.one); (case hs => omega); k_whole); intro D' u1' u2' c' h' tk' F' N' l1' sz'; (try dsimp only); (try k_fold)))
local macro_rules | `(tactic| walk_at "call ref") => `(tactic| (k_here; (with_reducible show wpAny _ _ (call (Value.ref 95) _) _ _ _); k_dflt (refine' quot_use ?k1 ?k2 ?k3 ?k4 ?k5 ?kK ?kd ?ku ?g ?hx ?hy ?i1 ?i2 ?i3 ?i4 ?hp ?hq ?hs ?hn ?_; (case k1 => k_asm); (case k2 => k_asm); (case k3 => k_asm); (case k4 => k_asm); (case k5 => k_asm); (case kK => first | exact rfl | assumption); (case kd => ktr_room); (case ku => ktr_units); (case g => assumption); (case hx => k_mem); (case hy => k_mem); (case i1 => first | exact rfl | exact num0 | exact num1); (case i2 => first | exact rfl | exact den0 | exact den1); (case i3 => first | exact rfl | exact num0 | exact num1); (case i4 => first | exact rfl | exact den0 | exact den1); (case hp => first | (with_reducible assumption) | exact Sz.zero | exact Sz.one); (case hq => first | (with_reducible assumption) | exact Sz.zero | exact Sz.one); (case hs => omega); (case hn => assumption); k_whole); intro D' u1' u2' c' h' tk' F' N' l1' sz'; (try dsimp only); (try k_fold)))
local macro_rules | `(tactic| walk_at "call ref") => `(tactic| (k_here; (with_reducible show wpAny _ _ (call (Value.ref 102) _) _ _ _); k_dflt (refine' neg_use ?k1 ?k2 ?k3 ?k4 ?k5 ?kK ?kd ?ku ?hx ?i1 ?i2 ?hp ?_; (case k1 => k_asm); (case k2 => k_asm); (case k3 => k_asm); (case k4 => k_asm); (case k5 => k_asm); (case kK => first | exact rfl | assumption); (case kd => ktr_room); (case ku => ktr_units); (case hx => k_mem); (case i1 => first | exact rfl | exact num0 | exact num1); (case i2 => first | exact rfl | exact den0 | exact den1); (case hp => first | (with_reducible assumption) | exact Sz.zero | exact Sz.one); k_whole); intro D' u1' u2' c' h' tk' F' N' l1' sz'; (try dsimp only); (try k_fold)))
local macro_rules | `(tactic| walk_at "call ref") => `(tactic| (k_here; (with_reducible show wpAny _ _ (call (Value.ref 116) _) _ _ _); k_dflt (refine' order_use ?k1 ?k2 ?k3 ?k4 ?k5 ?kK ?kd ?ku ?hx ?hy ?i1 ?i2 ?i3 ?i4 ?hp ?hq ?hs ?_; (case k1 => k_asm); (case k2 => k_asm); (case k3 => k_asm); (case k4 => k_asm); (case k5 => k_asm); (case kK => first | exact rfl | assumption); (case kd => ktr_room); (case ku => ktr_units); (case hx => k_mem); (case hy => k_mem); (case i1 => first | exact rfl | exact num0 | exact num1); (case i2 => first | exact rfl | exact den0 | exact den1); (case i3 => first | exact rfl | exact num0 | exact num1); (case i4 => first | exact rfl | exact den0 | exact den1); (case hp => first | (with_reducible assumption) | exact Sz.zero | exact Sz.one); (case hq => first | (with_reducible assumption) | exact Sz.zero | exact Sz.one); (case hs => omega); k_whole); intro u' h' tk' F' N'; (try dsimp only); (try k_fold)))
local macro_rules | `(tactic| walk_at "subscriptTail") => `(tactic| (k_here; (with_reducible show wpAny _ _ (subscriptTail _ _ (Value.ref _) (Value.int _ _)) _ _ _); k_dflt (refine' item_led ?N ?m ?a ?b ?x ?_; (case N => k_asm); (case m => k_mem); (case a => decide); (case b => decide); (case x => exact rfl); k_whole)))
local macro_rules | `(tactic| walk_at "subscriptTail Name") => `(tactic| (k_here; (with_reducible show wpAny _ _ (subscriptTail _ _ (Value.ref _) (Value.int _ _)) _ _ _); k_dflt (refine' item_led ?N ?m ?a ?b ?x ?_; (case N => k_asm); (case m => k_mem); (case a => decide); (case b => decide); (case x => exact rfl); k_whole)))
local macro_rules | `(tactic| walk_at "subscriptTail Name Constant ref int") => `(tactic| (k_here; (with_reducible show wpAny _ _ (subscriptTail _ _ (Value.ref _) (Value.int _ _)) _ _ _); k_dflt (refine' item_led ?N ?m ?a ?b ?x ?_; (case N => k_asm); (case m => k_mem); (case a => decide); (case b => decide); (case x => exact rfl); k_whole)))
local macro_rules | `(tactic| walk_at "subscriptTail Name Name ref int") => `(tactic| (k_here; (with_reducible show wpAny _ _ (subscriptTail _ _ (Value.ref _) (Value.int _ _)) _ _ _); k_dflt (refine' item_led ?N ?m ?a ?b ?x ?_; (case N => k_asm); (case m => k_mem); (case a => decide); (case b => decide); (case x => exact rfl); k_whole)))
local macro_rules | `(tactic| walk_at "subscriptTail Subscript Name Constant Name ref int") => `(tactic| (k_here; (with_reducible show wpAny _ _ (subscriptTail _ _ (Value.ref _) (Value.int _ _)) _ _ _); k_dflt (refine' item_led ?N ?m ?a ?b ?x ?_; (case N => k_asm); (case m => k_mem); (case a => decide); (case b => decide); (case x => exact rfl); k_whole)))
local macro_rules | `(tactic| walk_at "subscriptTail Subscript Name Constant Constant ref int") => `(tactic| (k_here; (with_reducible show wpAny _ _ (subscriptTail _ _ (Value.ref _) (Value.int _ _)) _ _ _); k_dflt (refine' item_led ?N ?m ?a ?b ?x ?_; (case N => k_asm); (case m => k_mem); (case a => decide); (case b => decide); (case x => exact rfl); k_whole)))
local macro_rules | `(tactic| walk_at "subscriptTail Subscript Name Name Name ref int") => `(tactic| (k_here; (with_reducible show wpAny _ _ (subscriptTail _ _ (Value.ref _) (Value.int _ _)) _ _ _); k_dflt (refine' item_led ?N ?m ?a ?b ?x ?_; (case N => k_asm); (case m => k_mem); (case a => decide); (case b => decide); (case x => exact rfl); k_whole)))
local macro_rules | `(tactic| walk_at "subscriptTail Subscript Name Name Constant ref int") => `(tactic| (k_here; (with_reducible show wpAny _ _ (subscriptTail _ _ (Value.ref _) (Value.int _ _)) _ _ _); k_dflt (refine' item_led ?N ?m ?a ?b ?x ?_; (case N => k_asm); (case m => k_mem); (case a => decide); (case b => decide); (case x => exact rfl); k_whole)))
local macro_rules | `(tactic| walk_at "getItem ref int") => `(tactic| (k_here; (with_reducible show wpAny _ _ (getItem (Value.ref _) (Value.int _ _)) _ _ _); k_dflt (refine' getItem_led ?N ?m ?a ?b ?x ?_; (case N => k_asm); (case m => k_mem); (case a => decide); (case b => decide); (case x => exact rfl); k_whole)))
local macro_rules | `(tactic| walk_at "callWith builtin:list.append cons nil") => `(tactic| refine callWith_method1 ?_)
local macro_rules | `(tactic| walk_at "callWith builtin:len nil nil") => `(tactic| refine callWith_builtin1 ?_)
local macro_rules | `(tactic| walk_at "callWith builtin:len cons nil") => `(tactic| refine callWith_builtin1 ?_)
local macro_rules | `(tactic| walk_at "exec Assign cons ListComp") => `(tactic| (k_here; k_dflt (refine LCg.Assign_ListComp_U (F₀ := by k_asm) (by rfl) (by with_unfolding_all rfl) (by with_unfolding_all rfl) (by decide) (by rfl) (by decide) (by rfl) (by rfl) (by rfl) ?_)))
local macro_rules | `(tactic| walk_at "CompSrc") => `(tactic| (k_here; k_dflt (refine' LCg.CompSrc.ledger ?hh ?F ?N ?hm ?hz ?_; (case hh => exact rfl); (case F => k_asm); (case N => k_asm); (case hm => k_mem); (case hz => first | exact Nat.le_of_ble_eq_true rfl | size_fits)); intro g'; lcg_lit))
local macro_rules | `(tactic| walk_at "call builtin:list.append cons nil") => `(tactic| (k_here; k_dflt (refine' append_K ?k1 ?k2 ?k3 ?_ ?z; (case k1 => k_asm); (case k2 => k_asm); (case k3 => k_upd); (case z => size_fits); k_whole); intro h' F' N'; (try k_sweep)))
local macro_rules | `(tactic| walk_at "eval Name") => `(tactic| (k_here; (with_reducible show wpAny _ _ (eval (PySem.Expr.Name _ _) (envOfC _ _ _ _ _)) _ _ _); k_dflt (first | (refine' nameX_L ?F ?v ?_ ?a ?b; (case a => rfl); (case b => rfl); (case F => k_asm); (case v => rfl); k_whole) | (refine' nameX_C ?N ?c ?m ?d ?_ ?a ?b; (case a => rfl); (case b => rfl); (case N => k_asm); (case c => rfl); (case m => k_mem); (case d => with_reducible assumption); k_whole) | (refine' nameX_K ?F ?X ?T ?e ?_ ?a ?b; (case a => rfl); (case b => rfl); (case F => k_asm); (case X => k_asm); (case T => k_asm); (case e => k_is); k_whole))))
local macro_rules | `(tactic| walk_at "CompEnd") => `(tactic| (k_here; k_dflt (refine' comp_del ?F ?N ?D1 ?D2 ?D3 ?S ?_; (case F => k_asm); (case N => k_asm); (case D1 => k_upd); (case D2 => k_upd); (case D3 => k_upd); (case S => lcg_src))))
local macro_rules | `(tactic| walk_at "CompEnd") => `(tactic| (k_here; k_dflt (refine' comp_keep (o := tup2 _ _ _ _ _) ?F ?N ?O ?K ?h1 ?h2 ?h3 ?hs ?S ?_; (case F => k_asm); (case N => k_asm); (case hs => ((repeat' (first | (with_reducible exact mem_same) | (with_reducible refine' mem_step ?_))); done)); (case O => first | (with_reducible assumption) | (refine' off3_addr ?oa ?ob; (case oa => with_reducible assumption); (case ob => exact rfl))); (case K => k_mem); (case h1 => k_ne); (case h2 => k_ne); (case h3 => k_ne); (case S => lcg_src))))
local macro_rules | `(tactic| walk_at "CompSrc") => `(tactic| (k_here; k_dflt (refine LCg.CompSrc.range (by rfl) (by k_asm) (by k_asm) (by assumption) (by first | decide | rfl) (by first | rfl | decide) (by first | size_fits | exact Nat.le_of_ble_eq_true rfl) ?_; intro g'; lcg_lit)))
local macro_rules | `(tactic| walk_at "eval ListComp") => `(tactic| (k_here; k_dflt (refine LCg.ListComp_U (F₀ := by k_asm) (by with_unfolding_all rfl) (by decide) (by rfl) (by decide) (by rfl) ?_)))
local macro_rules | `(tactic| walk_at "eval ListComp") => `(tactic| (k_here; k_dflt (first | (refine LCg.ListComp_U (F₀ := by k_asm) (by with_unfolding_all rfl) (by decide) (by rfl) (by decide) (by rfl) ?_) | (refine ListComp_C (F₀ := by k_asm) (by with_unfolding_all rfl) (by rfl) (by decide) (by intro _ _; rfl) (by intro _; rfl) (by intro _ _; rfl) ?_))))
local macro_rules | `(tactic| walk_at "SrcC") => `(tactic| (k_here; k_dflt (first
  | (refine' SrcC.ledger ?hh ?F ?N ?hm ?hz ?_; (case hh => exact rfl); (case F => k_asm); (case N => k_asm); (case hm => k_mem); (case hz => first | exact Nat.le_of_ble_eq_true rfl | size_fits))
  | (refine' SrcC.range ?hh ?F ?N ?hr ?h1 ?h2 ?h3 ?_; (case hh => exact rfl); (case F => k_asm); (case N => k_asm); (case hr => assumption); (case h1 => first | decide | rfl); (case h2 => first | rfl | decide); (case h3 => first | size_fits | exact Nat.le_of_ble_eq_true rfl))); intro g'; (first | (refine RestC.lit 2 (by rfl) ?_) | (refine RestC.lit 3 (by rfl) ?_) | (refine RestC.lit 1 (by rfl) ?_) | (refine RestC.lit 0 (by rfl) ?_) | (refine RestC.lit 4 (by rfl) ?_))))
local macro_rules | `(tactic| walk_at "RestC") => `(tactic| (with_unfolding_all first
  | (refine RestC.succ ?_; intro v' I' oI' C' oC' D' X' oX' h' tk' E' hv' dX' F' N' off' o1x' ne'; (first | lcg_open hv' | (obtain ⟨t9', hv9'⟩ := hv'; subst hv9')); (replace ne' := Ne3.mk' ne'))
  | refine RestC.zero ?_))
local macro_rules | `(tactic| walk_at "EndC") => `(tactic| (k_here; (try simp only [List.nil_append, List.cons_append]); k_dflt (refine' endC_del ?F ?N ?D1 ?D2 ?D3 ?D4 ?S ?_; (case F => k_asm); (case N => k_asm); (case D1 => k_upd); (case D2 => k_upd); (case D3 => k_upd); (case D4 => k_upd); (case S => lcg_src))))
local macro_rules | `(tactic| walk_at "EndC") => `(tactic| (k_here; (try simp only [List.nil_append, List.cons_append]); k_dflt (refine' endC_keep (o := tup2 _ _ _ _ _) ?F ?N ?O ?O1 ?K ?h1 ?h2 ?h3 ?h4 ?hs ?S ?_; (case F => k_asm); (case N => k_asm); (case hs => ((repeat' (first | (with_reducible exact mem_same) | (with_reducible refine' mem_step ?_))); done)); (case O => with_reducible assumption); (case O1 => with_reducible assumption); (case K => k_mem); (case h1 => k_ne); (case h2 => k_ne); (case h3 => k_ne); (case h4 => k_ne); (case S => lcg_src))))
local macro_rules | `(tactic| walk_at "exec Assign cons ListComp") => `(tactic| (k_here; k_dflt (first | (refine LCg.Assign_ListComp_U (F₀ := by k_asm) (by rfl) (by with_unfolding_all rfl) (by with_unfolding_all rfl) (by decide) (by rfl) (by decide) (by rfl) (by rfl) (by rfl) ?_) | ((with_reducible refine wpAny_Assign_Name ?_ ?_); rotate_left; (with_unfolding_all rfl)))))
local macro_rules | `(tactic| walk_at "call ref") => `(tactic| (k_here; (with_reducible show wpAny _ _ (call (Value.ref 143) _) _ _ _); k_dflt (refine' total2_use ?k1 ?k2 ?k3 ?k4 ?k5 ?kK ?kd ?ku ?g ?hl ?h1 ?h2 ?z1 ?z2 ?hs ?_; (case k1 => k_asm); (case k2 => k_asm); (case k3 => k_asm); (case k4 => k_asm); (case k5 => k_asm); (case kK => first | exact rfl | assumption); (case kd => ktr_room); (case ku => ktr_units); (case g => assumption); (case hl => k_mem); (case h1 => k_mem); (case h2 => k_mem); (case z1 => with_reducible assumption); (case z2 => with_reducible assumption); (case hs => omega); k_whole); intro D' u1' u2' c' h' tk' F' N' l1' sz'; (try dsimp only); (try k_fold)))
local macro_rules | `(tactic| walk_at "call ref") => `(tactic| (k_here; (with_reducible show wpAny _ _ (call (Value.ref 143) _) _ _ _); k_dflt (refine' total3_use ?k1 ?k2 ?k3 ?k4 ?k5 ?kK ?kd ?ku ?g ?hl ?h1 ?h2 ?h3 ?z1 ?z2 ?z3 ?hs ?_; (case k1 => k_asm); (case k2 => k_asm); (case k3 => k_asm); (case k4 => k_asm); (case k5 => k_asm); (case kK => first | exact rfl | assumption); (case kd => ktr_room); (case ku => ktr_units); (case g => assumption); (case hl => k_mem); (case h1 => k_mem); (case h2 => k_mem); (case h3 => k_mem); (case z1 => with_reducible assumption); (case z2 => with_reducible assumption); (case z3 => with_reducible assumption); (case hs => omega); k_whole); intro D' u1' u2' c' h' tk' F' N' l1' sz'; (try dsimp only); (try k_fold)))
theorem times_does (w : World) (mean : ExcName → Option Value) (mg mb : Str → Option Value) (G : Great mg) (news : List (Addr × Obj)) (lx : Addr) (cx : Nat) (rx1 : Addr) (cx1 : Nat) (rx2 : Addr) (cx2 : Nat) (ax11 : Addr) (p11 : Rat) (sx11 ux11 : Tok) (kx11 : Nat) (ax12 : Addr) (p12 : Rat) (sx12 ux12 : Tok) (kx12 : Nat) (ax21 : Addr) (p21 : Rat) (sx21 ux21 : Tok) (kx21 : Nat) (ax22 : Addr) (p22 : Rat) (sx22 ux22 : Tok) (kx22 : Nat) (ly : Addr) (cy : Nat) (ry1 : Addr) (cy1 : Nat) (ry2 : Addr) (cy2 : Nat) (ay11 : Addr) (q11 : Rat) (sy11 uy11 : Tok) (ky11 : Nat) (ay12 : Addr) (q12 : Rat) (sy12 uy12 : Tok) (ky12 : Nat) (ay21 : Addr) (q21 : Rat) (sy21 uy21 : Tok) (ky21 : Nat) (ay22 : Addr) (q22 : Rat) (sy22 uy22 : Tok) (ky22 : Nat)
    (hxl : (lx, listObj [.ref rx1, .ref rx2] cx) ∈ news) (hxr1 : (rx1, listObj [.ref ax11, .ref ax12] cx1) ∈ news) (hxr2 : (rx2, listObj [.ref ax21, .ref ax22] cx2) ∈ news) (hx11 : (ax11, tup2 p11.num sx11 p11.den ux11 kx11) ∈ news) (zx11 : Sz 2 p11) (hx12 : (ax12, tup2 p12.num sx12 p12.den ux12 kx12) ∈ news) (zx12 : Sz 2 p12) (hx21 : (ax21, tup2 p21.num sx21 p21.den ux21 kx21) ∈ news) (zx21 : Sz 2 p21) (hx22 : (ax22, tup2 p22.num sx22 p22.den ux22 kx22) ∈ news) (zx22 : Sz 2 p22)
    (hyl : (ly, listObj [.ref ry1, .ref ry2] cy) ∈ news) (hyr1 : (ry1, listObj [.ref ay11, .ref ay12] cy1) ∈ news) (hyr2 : (ry2, listObj [.ref ay21, .ref ay22] cy2) ∈ news) (hy11 : (ay11, tup2 q11.num sy11 q11.den uy11 ky11) ∈ news) (zy11 : Sz 2 q11) (hy12 : (ay12, tup2 q12.num sy12 q12.den uy12 ky12) ∈ news) (zy12 : Sz 2 q12) (hy21 : (ay21, tup2 q21.num sy21 q21.den uy21 ky21) ∈ news) (zy21 : Sz 2 q21) (hy22 : (ay22, tup2 q22.num sy22 q22.den uy22 ky22) ∈ news) (zy22 : Sz 2 q22) :
    Does w mean mg mb 5 165 news [.ref lx, .ref ly] (Out2 (p11 * q11 + p12 * q21) (p11 * q12 + p12 * q22) (p21 * q11 + p22 * q21) (p21 * q12 + p22 * q22) news) := by
  intro dp un gd cn cs a ccd cl outer A₀ base h₀ L m s Q E B F X N T hk hd hu hret
  refine wpAny_call ?_
  k_dflt (refine' code_defC (binds := [(PySem.Str.ofString "one", .ref lx), (PySem.Str.ofString "other", .ref ly)]) ?k1 ?k2 ?k3 ?k4 ?k5 ?kA ?kF ?kK ?k6 ?k7 ?k8 ?k9 ?kB ?kD ?_ ?c2 ?c3 ?c4; (case kA => exact rfl); (case kF => exact rfl); (case kK => assumption); (case k1 => k_asm); (case k2 => k_asm); (case k3 => k_asm); (case k4 => k_asm); (case k5 => k_asm); (case k6 => k_is); (case k7 => k_is); (case k8 => ktr_room); (case k9 => exact BindsTo.of_eq rfl); (case kB => exact rfl); (case kD => decide +kernel); (case c2 => exact rfl); (case c3 => exact rfl); (case c4 => exact rfl); k_whole)
  intro g' L' h' tk' cells' FG' F' N' Y' B' X' T' l1
  have l2 := allLt_of l1
  have l3 : AllLt (L' + 1) _ := AllLt.mono l2 (Nat.le_succ _)
  have l4 : AllLt (L' + 1 + 1) _ := AllLt.mono l3 (Nat.le_succ _)
  k_cells Y'
  (try simp only [List.cons_append, List.nil_append] at N')
  (try dsimp only)
  (try k_fold)
  k_steps
  all_goals (refine' out2_end hret ?F ?N ?hs ?hD ?hr1 ?hr2 ?h11 ?h12 ?h21 ?h22 ?wD ?wr1 ?wr2 ?wa11 ?wa12 ?wa21 ?wa22; (case F => k_asm); (case N => k_asm); (case hD => k_mem); (case hr1 => k_mem); (case hr2 => k_mem); (case h11 => k_mem); (case h12 => k_mem); (case h21 => k_mem); (case h22 => k_mem); (case hs => kcj_all); (case wD => k_all); (case wr1 => k_all); (case wr2 => k_all); (case wa11 => k_all); (case wa12 => k_all); (case wa21 => k_all); (case wa22 => k_all); skip)
end Mine
end
section
open PySem PySem.W PyProof.Rows PySem.Calls PySem.Spec
set_option Elab.async false
set_option maxRecDepth 100000
set_option maxHeartbeats 8000000
namespace Mine
def Stop (p : Prop) : Prop := p
theorem Stop.out {p : Prop} (h : Stop p) : p := h
theorem Stop.mk {p : Prop} (h : p) : Stop p := h
theorem execs_cut {M : Model} {A : Around} {E : Value → Shared → Prop} {s : Shared} {env : Env} {st : Stmt} {rest : List Stmt} {Q : Flow → Shared → Prop} (Mid : Shared → Prop)
    (h1 : wpAny M A (exec st env) (fun f s' => match f with | .next => Stop (Mid s') | f => Q f s') E s)
    (h2 : ∀ s', Mid s' → wpAny M A (execs rest env) Q E s') : wpAny M A (execs (st :: rest) env) Q E s :=
  wpAny_execs_cons (wpAny_mono h1 (fun f s' h => by
    cases f with
    | next => exact h2 s' h
    | brk => exact h
    | cont => exact h
    | ret v => exact h) fun _ _ e => e)
theorem execs_cut2 {M : Model} {A : Around} {E : Value → Shared → Prop} {s : Shared} {env : Env} {st st2 : Stmt} {rest : List Stmt} {Q : Flow → Shared → Prop} (Mid : Shared → Prop)
    (h1 : wpAny M A (exec st env) (fun f s' => match f with | .next => wpAny M A (exec st2 env) (fun f s' => match f with | .next => Stop (Mid s') | f => Q f s') E s' | f => Q f s') E s)
    (h2 : ∀ s', Mid s' → wpAny M A (execs rest env) Q E s') : wpAny M A (execs (st :: st2 :: rest) env) Q E s :=
  wpAny_execs_cons (wpAny_mono h1 (fun f s' h => by
    cases f with
    | next => exact execs_cut Mid h h2
    | brk => exact h
    | cont => exact h
    | ret v => exact h) fun _ _ e => e)
theorem with_lead {J : Int → (Str → Option Value) → List (Addr × Obj) → Prop} {m : Str → Option Value} {all : List (Addr × Obj)} {ld : Int} {t : Tok} (hl : m (PySem.Str.ofString "lead") = some (.int ld t)) (hj : ∃ small, (∀ p ∈ small, p ∈ all) ∧ J ld m small) :
    ∃ small, (∀ p ∈ small, p ∈ all) ∧ (∃ ld t, m (PySem.Str.ofString "lead") = some (.int ld t) ∧ J ld m small) :=
  let ⟨small, a, b⟩ := hj
  ⟨small, a, ld, t, hl, b⟩
section
variable {prog : Program} {w : World} {A : Around} {E : Value → Shared → Prop} {s : Shared} {env : Env} {h₀ : Heap} {x : Str} {body : List Stmt} {Q : Flow → Shared → Prop} {I : Addr}
abbrev TurnOk (prog : Program) (w : World) (A : Around) (E : Value → Shared → Prop) (h₀ : Heap) (env : Env) (x : Str) (body : List Stmt) (Q : Flow → Shared → Prop) (s : Shared) (I : Addr) (v : Int) (m : Str → Option Value) (news : List (Addr × Obj)) (J' : (Str → Option Value) → List (Addr × Obj) → Prop) : Prop :=
  ∀ (it : Obj) t h tk, Fr h₀ env.locals h m → News h₀ env.locals h ((I, it) :: news) →
      wpAny (model prog w) A (storeName env x (.int v t)) (fun _ s' => wpAny (model prog w) A (execs body env)
        (UnrPost h₀ env.locals s I it J' Q) E s') E { s with heap := h, toks := tk }
theorem unrPost_mono {L : Addr} {it : Obj} {J J' : (Str → Option Value) → List (Addr × Obj) → Prop} (hj : ∀ m nw, J m nw → J' m nw) (f : Flow) (s' : Shared) (h : UnrPost h₀ L s I it J Q f s') : UnrPost h₀ L s I it J' Q f s' := by
  cases f with
  | next => obtain ⟨h', tk, m', nw, a, b, c, d, e⟩ := h; exact ⟨h', tk, m', nw, a, b, c, d, hj _ _ e⟩
  | brk => exact h
  | cont => obtain ⟨h', tk, m', nw, a, b, c, d, e⟩ := h; exact ⟨h', tk, m', nw, a, b, c, d, hj _ _ e⟩
  | ret v => exact h
theorem TurnsC.one {J' : (Str → Option Value) → List (Addr × Obj) → Prop} {v : Int} {r : List Int} {m : Str → Option Value} {news : List (Addr × Obj)}
    (h : TurnOk prog w A E h₀ env x body Q s I v m news J') (hr : ∀ m' nw', J' m' nw' → TurnsC prog w A E h₀ env x body Q s I r m' nw') :
    TurnsC prog w A E h₀ env x body Q s I (v :: r) m news := fun it t h' tk F N =>
  wpAny_mono (h it t h' tk F N) (fun _ s' h2 => wpAny_mono h2 (fun f s'' h3 => unrPost_mono hr f s'' h3) fun _ _ e => e) fun _ _ e => e
theorem TurnsC.weaken : ∀ {r : List Int} {m : Str → Option Value} {small news : List (Addr × Obj)}, (∀ p ∈ small, p ∈ news) → TurnsC prog w A E h₀ env x body Q s I r m small → TurnsC prog w A E h₀ env x body Q s I r m news
  | [], _, _, _, hs, h => fun h' tk F N => h h' tk F fun p hp => N p (hs p hp)
  | _ :: _, _, _, _, hs, h => fun it t h' tk F N => h it t h' tk F fun p hp => by
    rcases List.mem_cons.mp hp with rfl | hp
    · exact N _ (.head _)
    · exact N p (.tail _ (hs p hp))
theorem TurnsC.join {J : (Str → Option Value) → List (Addr × Obj) → Prop} {r : List Int} {m : Str → Option Value} {news : List (Addr × Obj)} (hj : ∃ small, (∀ p ∈ small, p ∈ news) ∧ J m small)
    (h : ∀ m' nw', J m' nw' → TurnsC prog w A E h₀ env x body Q s I r m' nw') : TurnsC prog w A E h₀ env x body Q s I r m news :=
  let ⟨_, hs, hj⟩ := hj
  TurnsC.weaken hs (h _ _ hj)
def MidS (s : Shared) (h₀ : Heap) (L I : Addr) (it : Obj) (J : (Str → Option Value) → List (Addr × Obj) → Prop) (s' : Shared) : Prop :=
  ∃ h tk m nw, s' = { s with heap := h, toks := tk } ∧ Fr h₀ L h m ∧ News h₀ L h ((I, it) :: nw) ∧ J m nw
theorem MidS.intro {L : Addr} {it : Obj} {J : (Str → Option Value) → List (Addr × Obj) → Prop} {h : Heap} {tk : Nat} {m : Str → Option Value} {all : List (Addr × Obj)}
    (F : Fr h₀ L h m) (N : News h₀ L h all) (hI : (I, it) ∈ all) (hj : ∃ small, (∀ p ∈ small, p ∈ all) ∧ J m small) : MidS s h₀ L I it J { s with heap := h, toks := tk } :=
  let ⟨small, hs, hj⟩ := hj
  ⟨h, tk, m, small, rfl, F, fun p hp => by
    rcases List.mem_cons.mp hp with rfl | hp
    · exact N _ hI
    · exact N p (hs p hp), hj⟩
theorem unrEnd_join {L : Addr} {it : Obj} {J : (Str → Option Value) → List (Addr × Obj) → Prop} {h : Heap} {tk : Nat} {m : Str → Option Value} {all : List (Addr × Obj)}
    (F : Fr h₀ L h m) (N : News h₀ L h all) (hI : (I, it) ∈ all) (hj : ∃ small, (∀ p ∈ small, p ∈ all) ∧ J m small) (off : ∀ m nw, J m nw → ∀ p ∈ nw, p.1 ≠ I) : UnrEnd h₀ L s I it J { s with heap := h, toks := tk } :=
  let ⟨small, hs, hj⟩ := hj
  UnrEnd.intro F N small (fun p hp => by
    rcases List.mem_cons.mp hp with rfl | hp
    · exact hI
    · exact hs p hp) (off _ _ hj) hj
end
end Mine
end
section
open PySem PySem.W PyProof.Rows PySem.Calls PySem.Spec PyProof.V
set_option Elab.async false
set_option maxRecDepth 100000
set_option maxHeartbeats 8000000
namespace Mine
theorem rat_same {p q : Rat} : (decide (p.num = q.num) && decide ((p.den : Int) = q.den)) = decide (p = q) := by
  by_cases h : p = q
  · subst h; simp
  · rw [decide_eq_false h]
    by_cases h1 : p.num = q.num
    · have : ¬ (p.den : Int) = q.den := fun e => h (Rat.ext h1 (by exact_mod_cast e))
      simp [this]
    · simp [h1]
section
variable {prog : Program} {w : World} {A : Around} {E : Value → Shared → Prop} {s : Shared} {h₀ : Heap} {L a b : Addr} {news : List (Addr × Obj)} {p q : Rat} {n1 n2 d1 d2 : Int} {t1 t2 t3 t4 : Tok} {c1 c2 : Nat} {Q : Value → Shared → Prop}
theorem eq_rats (N : News h₀ L s.heap news) (ha : (a, tup2 n1 t1 d1 t2 c1) ∈ news) (hb : (b, tup2 n2 t3 d2 t4 c2) ∈ news) (i1 : n1 = p.num) (i2 : d1 = p.den) (i3 : n2 = q.num) (i4 : d2 = q.den) (hu : A.units + 64 < cLine) (h : Q (.bool (decide (p = q))) s) :
    wpAny (model prog w) A (compareOp .Eq (.ref a) (.ref b)) Q E s := by
  subst i1 i2 i3 i4
  refine eq_dataH (reads_tuple_at (News.get N ha) rfl rfl (.cons (.int _ _) (.cons (.int _ _) .nil))) (reads_tuple_at (News.get N hb) rfl rfl (.cons (.int _ _) (.cons (.int _ _) .nil))) rfl rfl hu ?_
  have e : PyData.eqv (.tuple [.int p.num, .int p.den]) (.tuple [.int q.num, .int q.den]) = decide (p = q) := by
    rw [← rat_same]; simp only [PyData.eqv, PyData.eqvAll, Bool.and_true]; rfl
  rw [e]; exact h
theorem ne_rats (N : News h₀ L s.heap news) (ha : (a, tup2 n1 t1 d1 t2 c1) ∈ news) (hb : (b, tup2 n2 t3 d2 t4 c2) ∈ news) (i1 : n1 = p.num) (i2 : d1 = p.den) (i3 : n2 = q.num) (i4 : d2 = q.den) (hu : A.units + 64 < cLine) (h : Q (.bool (!decide (p = q))) s) :
    wpAny (model prog w) A (compareOp .NotEq (.ref a) (.ref b)) Q E s := by
  subst i1 i2 i3 i4
  refine ne_dataH (reads_tuple_at (News.get N ha) rfl rfl (.cons (.int _ _) (.cons (.int _ _) .nil))) (reads_tuple_at (News.get N hb) rfl rfl (.cons (.int _ _) (.cons (.int _ _) .nil))) rfl rfl hu ?_
  have e : PyData.eqv (.tuple [.int p.num, .int p.den]) (.tuple [.int q.num, .int q.den]) = decide (p = q) := by
    rw [← rat_same]; simp only [PyData.eqv, PyData.eqvAll, Bool.and_true]; rfl
  rw [e]; exact h
end
end Mine
end
section
open PySem PySem.W PyProof.Rows PySem.Calls PySem.Spec PyProof.V
set_option Elab.async false
set_option maxRecDepth 100000
set_option maxHeartbeats 8000000
namespace Mine
def RowAt (m : Nat) (led : List (Addr × Obj)) (r : Addr) (p : Nat → Rat) (e : Nat) : Prop :=
  ∃ as c, (r, listObj as c) ∈ led ∧ as.length = m ∧ ∀ j, j < m → ∃ a s u k, as[j]? = some (.ref a) ∧ (a, tup2 (p j).num s (p j).den u k) ∈ led ∧ Sz e (p j)
def RowsAt (n m : Nat) (led : List (Addr × Obj)) (vs : List Value) (P : Nat → Nat → Rat) (E : Nat → Nat) : Prop :=
  vs.length = n ∧ ∀ i, i < n → ∃ r, vs[i]? = some (.ref r) ∧ RowAt m led r (P i) (E i)
theorem RowAt.sub {m : Nat} {led led' : List (Addr × Obj)} {r : Addr} {p p' : Nat → Rat} {e e' : Nat} (h : RowAt m led r p e) (hs : ∀ q ∈ led, q ∈ led') (hp : ∀ j, j < m → p j = p' j) (he : e ≤ e') : RowAt m led' r p' e' := by
  obtain ⟨as, c, h1, h2, h3⟩ := h
  refine ⟨as, c, hs _ h1, h2, fun j hj => ?_⟩
  obtain ⟨a, s, u, k, g1, g2, g3⟩ := h3 j hj
  rw [hp j hj] at g2 g3
  exact ⟨a, s, u, k, g1, hs _ g2, g3.mono he⟩
theorem RowsAt.sub {n m : Nat} {led led' : List (Addr × Obj)} {vs : List Value} {P P' : Nat → Nat → Rat} {E E' : Nat → Nat} (h : RowsAt n m led vs P E) (hs : ∀ q ∈ led, q ∈ led') (hp : ∀ i, i < n → ∀ j, j < m → P i j = P' i j) (he : ∀ i, i < n → E i ≤ E' i) : RowsAt n m led' vs P' E' := by
  refine ⟨h.1, fun i hi => ?_⟩
  obtain ⟨r, h1, h2⟩ := h.2 i hi
  exact ⟨r, h1, h2.sub hs (hp i hi) (he i hi)⟩
theorem RowsAt.set {n m : Nat} {led led' : List (Addr × Obj)} {vs : List Value} {P : Nat → Nat → Rat} {E : Nat → Nat} {k : Nat} {D : Addr} {q : Nat → Rat} {e : Nat} (h : RowsAt n m led vs P E) (hs : ∀ q ∈ led, q ∈ led') (hk : k < n) (hq : RowAt m led' D q e) :
    RowsAt n m led' (vs.set k (.ref D)) (fun i => if i = k then q else P i) (fun i => if i = k then e else E i) := by
  refine ⟨by rw [List.length_set]; exact h.1, fun i hi => ?_⟩
  by_cases hik : i = k
  · subst hik
    refine ⟨D, ?_, by simpa using hq⟩
    rw [List.getElem?_set_self (by rw [h.1]; exact hi)]
  · obtain ⟨r, h1, h2⟩ := h.2 i hi
    refine ⟨r, ?_, ?_⟩
    · rw [List.getElem?_set_ne (fun e => hik e.symm)]; exact h1
    · simpa [hik] using h2.sub hs (fun _ _ => rfl) (Nat.le_refl _)
theorem RowsAt.swap {n m : Nat} {led led' : List (Addr × Obj)} {vs : List Value} {P : Nat → Nat → Rat} {e : Nat} {a b : Nat} {va vb : Value} (h : RowsAt n m led vs P (fun _ => e)) (hs : ∀ q ∈ led, q ∈ led') (ha : a < n) (hb : b < n) (hab : b ≠ a) (h1 : vs[a]? = some va) (h2 : vs[b]? = some vb) :
    RowsAt n m led' ((vs.set a vb).set b va) (fun i => if i = a then P b else if i = b then P a else P i) (fun _ => e) := by
  obtain ⟨ra, ga, ha'⟩ := h.2 a ha
  obtain ⟨rb, gb, hb'⟩ := h.2 b hb
  obtain rfl : va = .ref ra := Option.some.inj (h1.symm.trans ga)
  obtain rfl : vb = .ref rb := Option.some.inj (h2.symm.trans gb)
  refine ⟨by rw [List.length_set, List.length_set]; exact h.1, fun i hi => ?_⟩
  by_cases hib : i = b
  · subst hib
    refine ⟨ra, ?_, ?_⟩
    · rw [List.getElem?_set_self (by rw [List.length_set, h.1]; exact hi)]
    · simpa [hab] using ha'.sub hs (fun _ _ => rfl) (Nat.le_refl _)
  · by_cases hia : i = a
    · subst hia
      refine ⟨rb, ?_, ?_⟩
      · rw [List.getElem?_set_ne (fun e => hib e.symm), List.getElem?_set_self (by rw [h.1]; exact hi)]
      · simpa using hb'.sub hs (fun _ _ => rfl) (Nat.le_refl _)
    · obtain ⟨r, g1, g2⟩ := h.2 i hi
      refine ⟨r, ?_, ?_⟩
      · rw [List.getElem?_set_ne (fun e => hib e.symm), List.getElem?_set_ne (fun e => hia e.symm)]; exact g1
      · simpa [hia, hib] using g2.sub hs (fun _ _ => rfl) (Nat.le_refl _)
theorem split_ledger {h₀ h' : Heap} {L : Addr} {all news : List (Addr × Obj)} (N : News h₀ L h' all) (hs : ∀ p ∈ news, p ∈ all) :
    ∃ tl, (∀ p ∈ all, p ∈ tl ++ news) ∧ (∀ p ∈ tl ++ news, p ∈ all) ∧ (∀ p ∈ tl, ∀ q ∈ news, q.1 ≠ p.1) := by
  refine ⟨all.filter (fun p => decide (∀ q ∈ news, q.1 ≠ p.1)), fun p hp => ?_, fun p hp => ?_, fun p hp => ?_⟩
  · by_cases h : ∀ q ∈ news, q.1 ≠ p.1
    · exact List.mem_append.mpr (.inl (List.mem_filter.mpr ⟨hp, by simpa using h⟩))
    · refine List.mem_append.mpr (.inr ?_)
      have : ∃ q ∈ news, q.1 = p.1 := by
        apply Classical.byContradiction
        intro hn
        exact h fun q hq e => hn ⟨q, hq, e⟩
      obtain ⟨q, hq, e⟩ := this
      have z1 := (N p hp).1
      have z2 := (N q (hs q hq)).1
      rw [e, z1] at z2
      have : p = q := Prod.ext e.symm (Option.some.inj z2)
      rw [this]; exact hq
  · rcases List.mem_append.mp hp with h | h
    · exact (List.mem_filter.mp h).1
    · exact hs p h
  · have := (List.mem_filter.mp hp).2
    simpa using this
theorem size_up {a b : Int} (h : a ≤ b) : Builtin.Range.rangeSize a b 1 = b - a := by
  unfold Builtin.Range.rangeSize
  rw [if_pos (by decide)]
  split <;> omega
section
variable {prog : Program} {w : World} {A : Around} {E : Value → Shared → Prop} {s : Shared} {env : Env} {h₀ : Heap} {x : Str} {body : List Stmt} {Q : Flow → Shared → Prop} {I : Addr}
theorem TurnsC.gen {J : Int → (Str → Option Value) → List (Addr × Obj) → Prop} : ∀ (n : Nat) (a : Int) {m : Str → Option Value} {news : List (Addr × Obj)}, (∃ small, (∀ p ∈ small, p ∈ news) ∧ J a m small) →
    (∀ v m nw, a ≤ v → v < a + n → J v m nw → TurnOk prog w A E h₀ env x body Q s I v m nw (J (v + 1))) → (∀ m nw, J (a + n) m nw → TurnsC prog w A E h₀ env x body Q s I [] m nw) → TurnsC prog w A E h₀ env x body Q s I (upFrom a n) m news
  | 0, a, _, _, hj, _, hz => TurnsC.join hj fun m nw j => hz m nw (by simpa using j)
  | n + 1, a, _, _, hj, ht, hz => TurnsC.join hj fun m nw j => by
    rw [upFrom]
    refine TurnsC.one (J' := J (a + 1)) (ht a m nw (by omega) (by omega) j) fun m' nw' j' => ?_
    exact TurnsC.gen n (a + 1) ⟨nw', fun _ h => h, j'⟩ (fun v m nw h1 h2 => ht v m nw (by omega) (by omega)) (fun m nw j => hz m nw (by
      have e : a + ((n + 1 : Nat) : Int) = a + 1 + (n : Int) := by omega
      rw [e]; exact j))
theorem small_range {a b : Int} (h1 : -1000 ≤ a) (h2 : a ≤ 1000) (h3 : -1000 ≤ b) (h4 : b ≤ 1000) : Builtin.Range.small a b 1 = true := by
  exact small_one (by omega) (by omega) (by omega) (by omega)
theorem iter_gen {px : Pos} {r : Addr} {a b : Int} {t₀ u₀ v₀ : Tok} {m₀ : Str → Option Value} {news : List (Addr × Obj)} (J : Addr → Int → (Str → Option Value) → List (Addr × Obj) → Prop)
    (hh : A.handled = none) (hr : IsRange s.heap r a b 1 t₀ u₀ v₀) (hab : -1000 ≤ a ∧ a ≤ b ∧ b ≤ 1000) (F : Fr h₀ env.locals s.heap m₀) (N : News h₀ env.locals s.heap news) (hE : PassesOwn (model prog w) A env E)
    (h1 : ∀ I : Addr, AllLt I news → ∃ small, (∀ p ∈ small, p ∈ news) ∧ J I a m₀ small)
    (h2 : ∀ I v m nw, a ≤ v → v < b → J I v m nw → TurnOk prog w A E h₀ env x body Q s I v m nw (J I (v + 1)))
    (h3 : ∀ I m nw, J I b m nw → TurnsC prog w A E h₀ env x body Q s I [] m nw) :
    wpAny (model prog w) A (pyIter (.ref r)) (LoopC prog w A E env x px body Q) E s := by
  have e := size_up hab.2.1
  refine iter_rangeC hh hr (small_range (by omega) (by omega) (by omega) (by omega)) rfl (by omega) F N hE fun I hI => ?_
  refine TurnsC.gen (J := J I) _ _ (h1 I (allLt_of hI)) (fun v m nw g1 g2 => h2 I v m nw g1 (by omega)) fun m nw j => h3 I m nw (by
    have e2 : b = a + ((Builtin.Range.rangeSize a b 1).toNat : Int) := by omega
    rw [e2]; exact j)
end
def Apart (L R : Addr) (rest : List (Addr × Obj)) : Prop := @Ne Nat R (L + 1 + 1 + 1 + 1) ∧ @Ne Nat R (L + 1 + 1 + 1) ∧ @Ne Nat R (L + 1 + 1) ∧ @Ne Nat R (L + 1) ∧ @Ne Nat (L + 1 + 1 + 1 + 1) R ∧ @Ne Nat (L + 1 + 1 + 1) R ∧ @Ne Nat (L + 1 + 1) R ∧ @Ne Nat (L + 1) R ∧ (∀ p ∈ rest, p.1 ≠ L + 1 + 1 + 1 + 1) ∧ (∀ p ∈ rest, p.1 ≠ L + 1 + 1 + 1) ∧ (∀ p ∈ rest, p.1 ≠ L + 1 + 1) ∧ (∀ p ∈ rest, p.1 ≠ L + 1) ∧ (∀ p ∈ rest, p.1 ≠ R)
def OffI (I L R : Addr) (rest : List (Addr × Obj)) : Prop := @Ne Nat (L + 1 + 1 + 1 + 1) I ∧ @Ne Nat (L + 1 + 1 + 1) I ∧ @Ne Nat (L + 1 + 1) I ∧ @Ne Nat (L + 1) I ∧ @Ne Nat R I ∧ @Ne Nat I (L + 1 + 1 + 1 + 1) ∧ @Ne Nat I (L + 1 + 1 + 1) ∧ @Ne Nat I (L + 1 + 1) ∧ @Ne Nat I (L + 1) ∧ @Ne Nat I R ∧ (∀ p ∈ rest, p.1 ≠ I)
theorem offI_of {I L R : Addr} {rest : List (Addr × Obj)} {oM oP oA oR oL : Obj} (h : LCg.Off1 I ((L + 1 + 1 + 1 + 1, oM) :: (L + 1 + 1 + 1, oP) :: (L + 1 + 1, oA) :: (L + 1, oR) :: (R, oL) :: rest)) : OffI I L R rest :=
  have h := off1_mem h
  have g : ∀ x o, (x, o) ∈ (L + 1 + 1 + 1 + 1, oM) :: (L + 1 + 1 + 1, oP) :: (L + 1 + 1, oA) :: (L + 1, oR) :: (R, oL) :: rest → @Ne Nat x I := fun x o hm => h (x, o) hm
  have a1 := g _ oM (.head _)
  have a2 := g _ oP (.tail _ (.head _))
  have a3 := g _ oA (.tail _ (.tail _ (.head _)))
  have a4 := g _ oR (.tail _ (.tail _ (.tail _ (.head _))))
  have a5 := g _ oL (.tail _ (.tail _ (.tail _ (.tail _ (.head _)))))
  ⟨a1, a2, a3, a4, a5, a1.symm, a2.symm, a3.symm, a4.symm, a5.symm, fun p hp => h p (.tail _ (.tail _ (.tail _ (.tail _ (.tail _ hp)))))⟩
def St (n m : Nat) (L : Addr) (base : List (Addr × Obj)) (CA : Option Value → Prop) (P : Nat → Nat → Rat) (E : Nat → Nat) (f : Rat) (ef : Nat) (mm : Str → Option Value) (nw : List (Addr × Obj)) : Prop :=
  ∃ (R : Addr) (vs : List Value) (cR : Nat) (rest : List (Addr × Obj)) (Fd : Addr) (sf uf : Tok) (kf : Nat) (oM oP oA oR : Obj) (vM vP vA : Option Value),
    mm (PySem.Str.ofString "found") = some (.ref Fd) ∧ oM.data = .cell vM ∧ oP.data = .cell vP ∧ oA.data = .cell vA ∧ oR.data = .cell (some (.ref R)) ∧ CA vA ∧
    nw = (L + 1 + 1 + 1 + 1, oM) :: (L + 1 + 1 + 1, oP) :: (L + 1 + 1, oA) :: (L + 1, oR) :: (R, listObj vs cR) :: rest ∧
    Apart L R rest ∧
    (∀ p ∈ base, p ∈ rest) ∧ (Fd, tup2 f.num sf f.den uf kf) ∈ rest ∧ Sz ef f ∧ RowsAt n m rest vs P E
theorem St.intro {n m : Nat} {L : Addr} {base : List (Addr × Obj)} {CA : Option Value → Prop} {P : Nat → Nat → Rat} {E : Nat → Nat} {f : Rat} {ef : Nat} {mm : Str → Option Value} {all l1 l2 l3 l4 : List (Addr × Obj)}
    {R : Addr} {vs : List Value} {cR : Nat} {rest : List (Addr × Obj)} {Fd : Addr} {sf uf : Tok} {kf : Nat} {oM oP oA oR : Obj} {vM vP vA : Option Value} {fn fd : Int} {ef' : Nat}
    (dM : oM.data = .cell vM) (dP : oP.data = .cell vP) (dA : oA.data = .cell vA) (dR : oR.data = .cell (some (.ref R)))
    (D1 : Del (L + 1 + 1 + 1 + 1) oM all l1) (D2 : Del (L + 1 + 1 + 1) oP l1 l2) (D3 : Del (L + 1 + 1) oA l2 l3) (D4 : Del (L + 1) oR l3 l4) (D5 : Del R (listObj vs cR) l4 rest)
    (hf : mm (PySem.Str.ofString "found") = some (.ref Fd)) (hF : (Fd, tup2 fn sf fd uf kf) ∈ rest) (i1 : fn = f.num) (i2 : fd = f.den) (hb : ∀ p ∈ base, p ∈ rest) (hz : Sz ef' f) (hl : ef' ≤ ef) (cA : CA vA) (hR : RowsAt n m rest vs P E) :
    ∃ small, (∀ p ∈ small, p ∈ all) ∧ St n m L base CA P E f ef mm small := by
  subst i1 i2
  obtain ⟨a1, b1, c1⟩ := D1.facts
  obtain ⟨a2, b2, c2⟩ := D2.facts
  obtain ⟨a3, b3, c3⟩ := D3.facts
  obtain ⟨a4, b4, c4⟩ := D4.facts
  obtain ⟨a5, b5, c5⟩ := D5.facts
  refine ⟨(L + 1 + 1 + 1 + 1, oM) :: (L + 1 + 1 + 1, oP) :: (L + 1 + 1, oA) :: (L + 1, oR) :: (R, listObj vs cR) :: rest, fun p hp => ?_, R, vs, cR, rest, Fd, sf, uf, kf, oM, oP, oA, oR, vM, vP, vA, hf, dM, dP, dA, dR, cA, rfl, ?_, hb, hF, hz.mono hl, hR⟩
  · rcases List.mem_cons.mp hp with rfl | hp
    · exact a1
    · rcases List.mem_cons.mp hp with rfl | hp
      · exact b1 _ a2
      · rcases List.mem_cons.mp hp with rfl | hp
        · exact b1 _ (b2 _ a3)
        · rcases List.mem_cons.mp hp with rfl | hp
          · exact b1 _ (b2 _ (b3 _ a4))
          · rcases List.mem_cons.mp hp with rfl | hp
            · exact b1 _ (b2 _ (b3 _ (b4 _ a5)))
            · exact b1 _ (b2 _ (b3 _ (b4 _ (b5 _ hp))))
  have e1 : @Ne Nat R (L + 1 + 1 + 1 + 1) := c1 _ (b2 _ (b3 _ (b4 _ a5)))
  have e2 : @Ne Nat R (L + 1 + 1 + 1) := c2 _ (b3 _ (b4 _ a5))
  have e3 : @Ne Nat R (L + 1 + 1) := c3 _ (b4 _ a5)
  have e4 : @Ne Nat R (L + 1) := c4 _ a5
  exact ⟨e1, e2, e3, e4, e1.symm, e2.symm, e3.symm, e4.symm, fun p hp => c1 _ (b2 _ (b3 _ (b4 _ (b5 _ hp)))), fun p hp => c2 _ (b3 _ (b4 _ (b5 _ hp))), fun p hp => c3 _ (b4 _ (b5 _ hp)), fun p hp => c4 _ (b5 _ hp), c5⟩
theorem with_iter {I1 : Addr} {it1 : Obj} {all l0 : List (Addr × Obj)} {T : List (Addr × Obj) → Prop} (D0 : Del I1 it1 all l0) (h : ∃ small, (∀ p ∈ small, p ∈ l0) ∧ T small) :
    ∃ small, (∀ p ∈ small, p ∈ all) ∧ ∃ nw0, small = (I1, it1) :: nw0 ∧ LCg.Off1 I1 nw0 ∧ T nw0 := by
  obtain ⟨a, b, c⟩ := D0.facts
  obtain ⟨sm, h1, h2⟩ := h
  refine ⟨(I1, it1) :: sm, fun p hp => ?_, sm, rfl, off1_ofD fun p hp => c p (h1 p hp), h2⟩
  rcases List.mem_cons.mp hp with rfl | hp
  · exact a
  · exact b p (h1 p hp)
theorem off_iter {I : Addr} {all : List (Addr × Obj)} {T : List (Addr × Obj) → Prop} (ho : ∀ p ∈ all, p.1 ≠ I) (h : ∃ small, (∀ p ∈ small, p ∈ all) ∧ T small) : ∃ small, (∀ p ∈ small, p ∈ all) ∧ LCg.Off1 I small ∧ T small :=
  let ⟨sm, h1, h2⟩ := h
  ⟨sm, h1, off1_ofD fun p hp => ho p (h1 p hp), h2⟩
theorem del_iter {I : Addr} {it : Obj} {all l0 : List (Addr × Obj)} {T : List (Addr × Obj) → Prop} (D0 : Del I it all l0) (h : ∃ small, (∀ p ∈ small, p ∈ l0) ∧ T small) : ∃ small, (∀ p ∈ small, p ∈ all) ∧ LCg.Off1 I small ∧ T small :=
  let ⟨sm, h1, h2⟩ := h
  let ⟨_, b, c⟩ := D0.facts
  ⟨sm, fun p hp => b p (h1 p hp), off1_ofD fun p hp => c p (h1 p hp), h2⟩

theorem RowAt.open2 {led : List (Addr × Obj)} {r : Addr} {p : Nat → Rat} {e : Nat} (h : RowAt 2 led r p e) : ∃ (c : Nat) (a0 : Addr) (s0 u0 : Tok) (k0 : Nat) (a1 : Addr) (s1 u1 : Tok) (k1 : Nat),
    (r, listObj [.ref a0, .ref a1] c) ∈ led ∧ (a0, tup2 (p 0).num s0 (p 0).den u0 k0) ∈ led ∧ (a1, tup2 (p 1).num s1 (p 1).den u1 k1) ∈ led ∧ Sz e (p 0) ∧ Sz e (p 1) := by
  obtain ⟨as, c, h1, h2, h3⟩ := h
  obtain ⟨a0, s0, u0, k0, g0, m0, z0⟩ := h3 0 (by decide)
  obtain ⟨a1, s1, u1, k1, g1, m1, z1⟩ := h3 1 (by decide)
  match as, h2, h1, g0, g1 with
  | [x0, x1], _, h1, g0, g1 =>
    obtain rfl : x0 = .ref a0 := Option.some.inj g0
    obtain rfl : x1 = .ref a1 := Option.some.inj g1
    exact ⟨c, a0, s0, u0, k0, a1, s1, u1, k1, h1, m0, m1, z0, z1⟩
theorem RowAt.openc2 {led : List (Addr × Obj)} {r : Addr} {p : Nat → Rat} {e v : Nat} (h : RowAt 2 led r p e) (hv : v < 2) : ∃ (c : Nat) (a0 : Addr) (s0 u0 : Tok) (k0 : Nat) (a1 : Addr) (s1 u1 : Tok) (k1 : Nat) (x : Addr) (sx ux : Tok) (kx : Nat),
    (r, listObj [.ref a0, .ref a1] c) ∈ led ∧ (a0, tup2 (p 0).num s0 (p 0).den u0 k0) ∈ led ∧ (a1, tup2 (p 1).num s1 (p 1).den u1 k1) ∈ led ∧ Sz e (p 0) ∧ Sz e (p 1) ∧ ([.ref a0, .ref a1] : List Value)[v]? = some (.ref x) ∧ (x, tup2 (p v).num sx (p v).den ux kx) ∈ led ∧ Sz e (p v) := by
  obtain ⟨c, a0, s0, u0, k0, a1, s1, u1, k1, h1, m0, m1, z0, z1⟩ := h.open2
  match v, hv with
  | 0, _ => exact ⟨c, a0, s0, u0, k0, a1, s1, u1, k1, a0, s0, u0, k0, h1, m0, m1, z0, z1, rfl, m0, z0⟩
  | 1, _ => exact ⟨c, a0, s0, u0, k0, a1, s1, u1, k1, a1, s1, u1, k1, h1, m0, m1, z0, z1, rfl, m1, z1⟩
theorem RowAt.of2 {led : List (Addr × Obj)} {r : Addr} {p : Nat → Rat} {e c : Nat} {a0 : Addr} {s0 u0 : Tok} {k0 e0 : Nat} {q0 : Rat} {a1 : Addr} {s1 u1 : Tok} {k1 e1 : Nat} {q1 : Rat}
    (h : (r, listObj [.ref a0, .ref a1] c) ∈ led) (m0 : (a0, tup2 q0.num s0 q0.den u0 k0) ∈ led) (z0 : Sz e0 q0) (l0 : e0 ≤ e) (w0 : q0 = p 0) (m1 : (a1, tup2 q1.num s1 q1.den u1 k1) ∈ led) (z1 : Sz e1 q1) (l1 : e1 ≤ e) (w1 : q1 = p 1) : RowAt 2 led r p e := by
  subst w0 w1
  refine ⟨[.ref a0, .ref a1], c, h, rfl, fun j hj => ?_⟩
  match j, hj with
  | 0, _ => exact ⟨a0, s0, u0, k0, rfl, m0, z0.mono l0⟩
  | 1, _ => exact ⟨a1, s1, u1, k1, rfl, m1, z1.mono l1⟩
theorem RowAt.open4 {led : List (Addr × Obj)} {r : Addr} {p : Nat → Rat} {e : Nat} (h : RowAt 4 led r p e) : ∃ (c : Nat) (a0 : Addr) (s0 u0 : Tok) (k0 : Nat) (a1 : Addr) (s1 u1 : Tok) (k1 : Nat) (a2 : Addr) (s2 u2 : Tok) (k2 : Nat) (a3 : Addr) (s3 u3 : Tok) (k3 : Nat),
    (r, listObj [.ref a0, .ref a1, .ref a2, .ref a3] c) ∈ led ∧ (a0, tup2 (p 0).num s0 (p 0).den u0 k0) ∈ led ∧ (a1, tup2 (p 1).num s1 (p 1).den u1 k1) ∈ led ∧ (a2, tup2 (p 2).num s2 (p 2).den u2 k2) ∈ led ∧ (a3, tup2 (p 3).num s3 (p 3).den u3 k3) ∈ led ∧ Sz e (p 0) ∧ Sz e (p 1) ∧ Sz e (p 2) ∧ Sz e (p 3) := by
  obtain ⟨as, c, h1, h2, h3⟩ := h
  obtain ⟨a0, s0, u0, k0, g0, m0, z0⟩ := h3 0 (by decide)
  obtain ⟨a1, s1, u1, k1, g1, m1, z1⟩ := h3 1 (by decide)
  obtain ⟨a2, s2, u2, k2, g2, m2, z2⟩ := h3 2 (by decide)
  obtain ⟨a3, s3, u3, k3, g3, m3, z3⟩ := h3 3 (by decide)
  match as, h2, h1, g0, g1, g2, g3 with
  | [x0, x1, x2, x3], _, h1, g0, g1, g2, g3 =>
    obtain rfl : x0 = .ref a0 := Option.some.inj g0
    obtain rfl : x1 = .ref a1 := Option.some.inj g1
    obtain rfl : x2 = .ref a2 := Option.some.inj g2
    obtain rfl : x3 = .ref a3 := Option.some.inj g3
    exact ⟨c, a0, s0, u0, k0, a1, s1, u1, k1, a2, s2, u2, k2, a3, s3, u3, k3, h1, m0, m1, m2, m3, z0, z1, z2, z3⟩
theorem RowAt.openc4 {led : List (Addr × Obj)} {r : Addr} {p : Nat → Rat} {e v : Nat} (h : RowAt 4 led r p e) (hv : v < 4) : ∃ (c : Nat) (a0 : Addr) (s0 u0 : Tok) (k0 : Nat) (a1 : Addr) (s1 u1 : Tok) (k1 : Nat) (a2 : Addr) (s2 u2 : Tok) (k2 : Nat) (a3 : Addr) (s3 u3 : Tok) (k3 : Nat) (x : Addr) (sx ux : Tok) (kx : Nat),
    (r, listObj [.ref a0, .ref a1, .ref a2, .ref a3] c) ∈ led ∧ (a0, tup2 (p 0).num s0 (p 0).den u0 k0) ∈ led ∧ (a1, tup2 (p 1).num s1 (p 1).den u1 k1) ∈ led ∧ (a2, tup2 (p 2).num s2 (p 2).den u2 k2) ∈ led ∧ (a3, tup2 (p 3).num s3 (p 3).den u3 k3) ∈ led ∧ Sz e (p 0) ∧ Sz e (p 1) ∧ Sz e (p 2) ∧ Sz e (p 3) ∧ ([.ref a0, .ref a1, .ref a2, .ref a3] : List Value)[v]? = some (.ref x) ∧ (x, tup2 (p v).num sx (p v).den ux kx) ∈ led ∧ Sz e (p v) := by
  obtain ⟨c, a0, s0, u0, k0, a1, s1, u1, k1, a2, s2, u2, k2, a3, s3, u3, k3, h1, m0, m1, m2, m3, z0, z1, z2, z3⟩ := h.open4
  match v, hv with
  | 0, _ => exact ⟨c, a0, s0, u0, k0, a1, s1, u1, k1, a2, s2, u2, k2, a3, s3, u3, k3, a0, s0, u0, k0, h1, m0, m1, m2, m3, z0, z1, z2, z3, rfl, m0, z0⟩
  | 1, _ => exact ⟨c, a0, s0, u0, k0, a1, s1, u1, k1, a2, s2, u2, k2, a3, s3, u3, k3, a1, s1, u1, k1, h1, m0, m1, m2, m3, z0, z1, z2, z3, rfl, m1, z1⟩
  | 2, _ => exact ⟨c, a0, s0, u0, k0, a1, s1, u1, k1, a2, s2, u2, k2, a3, s3, u3, k3, a2, s2, u2, k2, h1, m0, m1, m2, m3, z0, z1, z2, z3, rfl, m2, z2⟩
  | 3, _ => exact ⟨c, a0, s0, u0, k0, a1, s1, u1, k1, a2, s2, u2, k2, a3, s3, u3, k3, a3, s3, u3, k3, h1, m0, m1, m2, m3, z0, z1, z2, z3, rfl, m3, z3⟩
theorem RowAt.of4 {led : List (Addr × Obj)} {r : Addr} {p : Nat → Rat} {e c : Nat} {a0 : Addr} {s0 u0 : Tok} {k0 e0 : Nat} {q0 : Rat} {a1 : Addr} {s1 u1 : Tok} {k1 e1 : Nat} {q1 : Rat} {a2 : Addr} {s2 u2 : Tok} {k2 e2 : Nat} {q2 : Rat} {a3 : Addr} {s3 u3 : Tok} {k3 e3 : Nat} {q3 : Rat}
    (h : (r, listObj [.ref a0, .ref a1, .ref a2, .ref a3] c) ∈ led) (m0 : (a0, tup2 q0.num s0 q0.den u0 k0) ∈ led) (z0 : Sz e0 q0) (l0 : e0 ≤ e) (w0 : q0 = p 0) (m1 : (a1, tup2 q1.num s1 q1.den u1 k1) ∈ led) (z1 : Sz e1 q1) (l1 : e1 ≤ e) (w1 : q1 = p 1) (m2 : (a2, tup2 q2.num s2 q2.den u2 k2) ∈ led) (z2 : Sz e2 q2) (l2 : e2 ≤ e) (w2 : q2 = p 2) (m3 : (a3, tup2 q3.num s3 q3.den u3 k3) ∈ led) (z3 : Sz e3 q3) (l3 : e3 ≤ e) (w3 : q3 = p 3) : RowAt 4 led r p e := by
  subst w0 w1 w2 w3
  refine ⟨[.ref a0, .ref a1, .ref a2, .ref a3], c, h, rfl, fun j hj => ?_⟩
  match j, hj with
  | 0, _ => exact ⟨a0, s0, u0, k0, rfl, m0, z0.mono l0⟩
  | 1, _ => exact ⟨a1, s1, u1, k1, rfl, m1, z1.mono l1⟩
  | 2, _ => exact ⟨a2, s2, u2, k2, rfl, m2, z2.mono l2⟩
  | 3, _ => exact ⟨a3, s3, u3, k3, rfl, m3, z3.mono l3⟩
theorem RowsAt.of2 {m : Nat} {led : List (Addr × Obj)} {P : Nat → Nat → Rat} {E : Nat → Nat} {r0 r1 : Addr} (h0 : RowAt m led r0 (P 0) (E 0)) (h1 : RowAt m led r1 (P 1) (E 1)) : RowsAt 2 m led [.ref r0, .ref r1] P E := by
  refine ⟨rfl, fun i hi => ?_⟩
  match i, hi with
  | 0, _ => exact ⟨r0, rfl, h0⟩
  | 1, _ => exact ⟨r1, rfl, h1⟩
theorem RowsAt.open2 {m : Nat} {led : List (Addr × Obj)} {vs : List Value} {P : Nat → Nat → Rat} {E : Nat → Nat} (h : RowsAt 2 m led vs P E) : ∃ r0 r1, vs = [.ref r0, .ref r1] ∧ RowAt m led r0 (P 0) (E 0) ∧ RowAt m led r1 (P 1) (E 1) := by
  obtain ⟨h2, h3⟩ := h
  obtain ⟨r0, g0, m0⟩ := h3 0 (by decide)
  obtain ⟨r1, g1, m1⟩ := h3 1 (by decide)
  match vs, h2, g0, g1 with
  | [x0, x1], _, g0, g1 =>
    obtain rfl : x0 = .ref r0 := Option.some.inj g0
    obtain rfl : x1 = .ref r1 := Option.some.inj g1
    exact ⟨r0, r1, rfl, m0, m1⟩
theorem RowsAt.of3 {m : Nat} {led : List (Addr × Obj)} {P : Nat → Nat → Rat} {E : Nat → Nat} {r0 r1 r2 : Addr} (h0 : RowAt m led r0 (P 0) (E 0)) (h1 : RowAt m led r1 (P 1) (E 1)) (h2 : RowAt m led r2 (P 2) (E 2)) : RowsAt 3 m led [.ref r0, .ref r1, .ref r2] P E := by
  refine ⟨rfl, fun i hi => ?_⟩
  match i, hi with
  | 0, _ => exact ⟨r0, rfl, h0⟩
  | 1, _ => exact ⟨r1, rfl, h1⟩
  | 2, _ => exact ⟨r2, rfl, h2⟩
theorem RowsAt.open3 {m : Nat} {led : List (Addr × Obj)} {vs : List Value} {P : Nat → Nat → Rat} {E : Nat → Nat} (h : RowsAt 3 m led vs P E) : ∃ r0 r1 r2, vs = [.ref r0, .ref r1, .ref r2] ∧ RowAt m led r0 (P 0) (E 0) ∧ RowAt m led r1 (P 1) (E 1) ∧ RowAt m led r2 (P 2) (E 2) := by
  obtain ⟨h2, h3⟩ := h
  obtain ⟨r0, g0, m0⟩ := h3 0 (by decide)
  obtain ⟨r1, g1, m1⟩ := h3 1 (by decide)
  obtain ⟨r2, g2, m2⟩ := h3 2 (by decide)
  match vs, h2, g0, g1, g2 with
  | [x0, x1, x2], _, g0, g1, g2 =>
    obtain rfl : x0 = .ref r0 := Option.some.inj g0
    obtain rfl : x1 = .ref r1 := Option.some.inj g1
    obtain rfl : x2 = .ref r2 := Option.some.inj g2
    exact ⟨r0, r1, r2, rfl, m0, m1, m2⟩
end Mine
end
section
open PySem PySem.W PyProof.Rows PySem.Calls PySem.Spec PyProof.V
set_option Elab.async false
set_option maxRecDepth 100000
set_option maxHeartbeats 8000000
namespace Mine
def elimP (P : Nat → Nat → Rat) (a k : Nat) (i j : Nat) : Rat := if i = a then P a j / P a a else if i < k then P i j - P i a * (P a j / P a a) else P i j
def elimE (e a k i : Nat) : Nat := if i = a then 2 * e else if i < k then 6 * e + 1 else e
def swapP (P : Nat → Nat → Rat) (a b : Nat) (i : Nat) : Nat → Rat := if i = a then P b else if i = b then P a else P i
def eN : Nat → Nat
  | 0 => 2
  | k + 1 => 6 * eN k + 1
theorem eN_le {k : Nat} (h : k < 3) : eN k ≤ 79 := by
  match k, h with
  | 0, _ => decide
  | 1, _ => decide
  | 2, _ => decide
theorem eN_le3 {k : Nat} (h : k ≤ 3) : eN k ≤ 475 := by
  match k, h with
  | 0, _ => decide
  | 1, _ => decide
  | 2, _ => decide
  | 3, _ => decide
theorem ordR_eq (p q : Rat) : ordR p q = if p < q then -1 else if q < p then 1 else 0 := by
  unfold ordR ordI
  simp only [← Rat.lt_iff]
theorem absR_zero_iff {p : Rat} : absR p = 0 ↔ p = 0 := by
  unfold absR; split <;> grind
theorem absR_nonneg (p : Rat) : 0 ≤ absR p := by
  unfold absR; rw [ordR_eq]
  split <;> grind
theorem lemA {a b : Rat} (h : ¬ 0 < ordR (absR b) (absR a)) : a = 0 → b = 0 := by
  intro ha
  have h1 : absR a = 0 := absR_zero_iff.mpr ha
  rw [h1, ordR_eq] at h
  have h2 := absR_nonneg b
  apply absR_zero_iff.mp
  grind
theorem lemB {a b : Rat} (h : 0 < ordR (absR b) (absR a)) : b ≠ 0 := by
  intro hb
  have h1 : absR b = 0 := absR_zero_iff.mpr hb
  rw [h1, ordR_eq] at h
  have h2 := absR_nonneg a
  grind
theorem exists_mono {all : List (Addr × Obj)} {T T' : List (Addr × Obj) → Prop} (h : ∃ small, (∀ p ∈ small, p ∈ all) ∧ T small) (g : ∀ nw, T nw → T' nw) : ∃ small, (∀ p ∈ small, p ∈ all) ∧ T' small :=
  let ⟨sm, h1, h2⟩ := h
  ⟨sm, h1, g _ h2⟩
section
variable {prog : Program} {w : World} {A : Around} {E : Value → Shared → Prop} {s : Shared} {h₀ : Heap} {L : Addr} {m : Str → Option Value} {news : List (Addr × Obj)} {vs : List Value} {n : Nat}
theorem len_led {l : Addr} {c : Nat} {Q : Value → Shared → Prop} (N : News h₀ L s.heap news) (hm : (l, listObj vs c) ∈ news) (hi : vs.length = n) (hl : n ≤ 100000)
    (h : Q (.int n (s.toks + 1)) { s with toks := s.toks + 1 + 1 }) : wpAny (model prog w) A (call (.builtin "len") [.ref l]) Q E s := by
  have e : vs.toArray.size = n := by rw [List.size_toArray]; exact hi
  exact len_list (News.isList N hm) (by rw [e]; omega) (by rw [e]; exact h)
end
abbrev tupR (a b : Addr) (c : Nat) : Obj := { cls := .type "tuple", data := .seq #[.ref a, .ref b] c }
def TakenPost (Sh : Nat → (Nat → Nat → Rat) → Rat → Prop) (n m : Nat) (news news' : List (Addr × Obj)) (r : Value) : Prop :=
  ∃ T cT RR vs cR F q sf uf kf P tl, r = .ref T ∧ (T, tupR RR F cT) ∈ news' ∧ (RR, listObj vs cR) ∈ news' ∧ (F, tup2 q.num sf q.den uf kf) ∈ news' ∧ Sz 475 q ∧ RowsAt n m news' vs P (fun _ => 475) ∧
    news' = tl ++ news ∧ (∀ p ∈ tl, ∀ q ∈ news, q.1 ≠ p.1) ∧ (Sh n P q ∨ q = 0 ∧ ∃ a P' f', a < n ∧ Sh a P' f' ∧ ∀ i, a ≤ i → i < n → P' i a = 0)
theorem taken_ret {Sh : Nat → (Nat → Nat → Rat) → Rat → Prop} {n k : Nat} {h₀ h' : Heap} {L : Addr} {m : Str → Option Value} {s : Shared} {Q : Value → Shared → Prop} {news all : List (Addr × Obj)} {tk : Nat} {T RR F : Addr} {cT cR kf : Nat} {vs : List Value} {q : Rat} {fn fd : Int} {sf uf : Tok} {P : Nat → Nat → Rat} {E : Nat → Nat} {e : Nat}
    (hret : ∀ r news' h' tk', Fr h₀ L h' m → News h₀ L h' news' → TakenPost Sh n k news news' r → Q r { s with heap := h', toks := tk' })
    (F' : Fr h₀ L h' m) (N : News h₀ L h' all) (hs : ∀ p ∈ news, p ∈ all) (hT : (T, tupR RR F cT) ∈ all) (hR : (RR, listObj vs cR) ∈ all) (hF : (F, tup2 fn sf fd uf kf) ∈ all) (i1 : fn = q.num) (i2 : fd = q.den) (hz : Sz e q) (he : e ≤ 475) (hrows : RowsAt n k all vs P E) (hE : ∀ i, i < n → E i ≤ 475)
    (hP : Sh n P q ∨ q = 0 ∧ ∃ a P' f', a < n ∧ Sh a P' f' ∧ ∀ i, a ≤ i → i < n → P' i a = 0) : Q (.ref T) { s with heap := h', toks := tk } := by
  subst i1 i2
  obtain ⟨tl, a1, a2, a3⟩ := split_ledger N hs
  exact hret _ (tl ++ news) _ _ F' (fun p hp => N p (a2 p hp)) ⟨T, cT, RR, vs, cR, F, q, sf, uf, kf, P, tl, rfl, a1 _ hT, a1 _ hR, a1 _ hF, hz.mono he, hrows.sub a1 (fun _ _ _ _ => rfl) hE, rfl, a3, hP⟩
end Mine
namespace Mine
theorem elim_start {P : Nat → Nat → Rat} {a : Nat} (i j : Nat) : (if i = a then (fun j => P a j / P a a) else P i) j = elimP P a 0 i j := by
  unfold elimP; by_cases h : i = a <;> simp [h]
theorem elimE_start {e a : Nat} (i : Nat) : (if i = a then 2 * e else e) ≤ elimE e a 0 i := by
  unfold elimE; by_cases h : i = a <;> simp [h]
theorem elim_at {P : Nat → Nat → Rat} {a : Nat} (i j : Nat) : elimP P a a i j = elimP P a (a + 1) i j := by
  unfold elimP; by_cases h : i = a
  · simp [h]
  · rw [if_neg h, if_neg h]
    by_cases g : i < a
    · rw [if_pos g, if_pos (by omega)]
    · rw [if_neg g, if_neg (by omega)]
theorem elimE_at {e a : Nat} (i : Nat) : elimE e a a i ≤ elimE e a (a + 1) i := by
  unfold elimE; by_cases h : i = a
  · simp [h]
  · rw [if_neg h, if_neg h]
    by_cases g : i < a
    · rw [if_pos g, if_pos (by omega)]; omega
    · rw [if_neg g, if_neg (by omega)]; omega
theorem elim_turn {P : Nat → Nat → Rat} {a k : Nat} (hk : k ≠ a) (i j : Nat) : (if i = k then (fun j => elimP P a k k j - elimP P a k k a * elimP P a k a j) else elimP P a k i) j = elimP P a (k + 1) i j := by
  unfold elimP
  by_cases h : i = k
  · subst h
    rw [if_pos rfl]; simp [hk]
  · rw [if_neg h]
    by_cases g : i = a
    · simp [g]
    · rw [if_neg g, if_neg g]
      by_cases g2 : i < k
      · rw [if_pos g2, if_pos (by omega)]
      · rw [if_neg g2, if_neg (by omega)]
theorem elimE_turn {e a k : Nat} (hk : k ≠ a) (i : Nat) : (if i = k then 6 * e + 1 else elimE e a k i) ≤ elimE e a (k + 1) i := by
  unfold elimE
  by_cases h : i = k
  · subst h
    simp [hk]
  · rw [if_neg h]
    by_cases g : i = a
    · simp [g]
    · rw [if_neg g, if_neg g]
      by_cases g2 : i < k
      · rw [if_pos g2, if_pos (by omega)]; omega
      · rw [if_neg g2, if_neg (by omega)]; omega
theorem elimE_le {e a k i : Nat} : elimE e a k i ≤ 6 * e + 1 := by
  unfold elimE; split
  · omega
  · split <;> omega
theorem elimE_self {e a k : Nat} : elimE e a k a = 2 * e := by unfold elimE; simp
theorem elimE_own {e a k : Nat} : elimE e a k k ≤ 2 * e := by
  unfold elimE; rw [if_neg (Nat.lt_irrefl k)]
  split <;> omega
end Mine
namespace Mine
section
variable {prog : Program} {w : World} {A : Around} {E : Value → Shared → Prop} {s : Shared} {env : Env} {h₀ : Heap} {x : Str} {body : List Stmt} {Q : Flow → Shared → Prop} {I L : Addr} {it : Obj} {J : (Str → Option Value) → List (Addr × Obj) → Prop} {h : Heap} {tk : Nat} {m : Str → Option Value} {all l0 : List (Addr × Obj)}
theorem midS_st (T : (Str → Option Value) → List (Addr × Obj) → Prop) (F : Fr h₀ L h m) (N : News h₀ L h all) (D0 : Del I it all l0) (st : ∃ small, (∀ p ∈ small, p ∈ l0) ∧ T m small) (mono : ∀ nw, LCg.Off1 I nw → T m nw → J m nw) : MidS s h₀ L I it J { s with heap := h, toks := tk } :=
  MidS.intro F N D0.facts.1 (let ⟨sm, a, b⟩ := st; ⟨sm, fun p hp => D0.facts.2.1 p (a p hp), mono sm (off1_ofD fun p hp => D0.facts.2.2 p (a p hp)) b⟩)
theorem unrEnd_st (T : (Str → Option Value) → List (Addr × Obj) → Prop) (F : Fr h₀ L h m) (N : News h₀ L h all) (D0 : Del I it all l0) (st : ∃ small, (∀ p ∈ small, p ∈ l0) ∧ T m small) (mono : ∀ nw, LCg.Off1 I nw → T m nw → J m nw) (off : ∀ m nw, J m nw → LCg.Off1 I nw) : UnrEnd h₀ L s I it J { s with heap := h, toks := tk } :=
  unrEnd_join F N D0.facts.1 (let ⟨sm, a, b⟩ := st; ⟨sm, fun p hp => D0.facts.2.1 p (a p hp), mono sm (off1_ofD fun p hp => D0.facts.2.2 p (a p hp)) b⟩) fun m nw j => off1_mem (off m nw j)
theorem iter_st {px : Pos} {r : Addr} {a b : Int} {t₀ u₀ v₀ : Tok} {m₀ : Str → Option Value} {news : List (Addr × Obj)} (J : Addr → Int → (Str → Option Value) → List (Addr × Obj) → Prop) (T : (Str → Option Value) → List (Addr × Obj) → Prop)
    (hh : A.handled = none) (hr : IsRange s.heap r a b 1 t₀ u₀ v₀) (hab : -1000 ≤ a ∧ a ≤ b ∧ b ≤ 1000) (F : Fr h₀ env.locals s.heap m₀) (N : News h₀ env.locals s.heap news) (hE : PassesOwn (model prog w) A env E)
    (st : ∃ small, (∀ p ∈ small, p ∈ news) ∧ T m₀ small) (mono : ∀ I nw, LCg.Off1 I nw → T m₀ nw → J I a m₀ nw)
    (h2 : ∀ I v m nw, a ≤ v → v < b → J I v m nw → TurnOk prog w A E h₀ env x body Q s I v m nw (J I (v + 1)))
    (h3 : ∀ I m nw, J I b m nw → TurnsC prog w A E h₀ env x body Q s I [] m nw) :
    wpAny (model prog w) A (pyIter (.ref r)) (LoopC prog w A E env x px body Q) E s :=
  iter_gen J hh hr hab F N hE (fun I hI => let ⟨sm, a, b⟩ := st; ⟨sm, a, mono I sm (off1_ofD fun p hp => ne_of_allLt hI p (a p hp)) b⟩) h2 h3
end
end Mine
namespace Mine
theorem len_set {vs : List Value} {i n : Nat} {x : Value} (h : vs.length = n) : (vs.set i x).length = n := by rw [List.length_set]; exact h
end Mine
end
section
open PySem PySem.W PyProof.Rows PySem.Calls PySem.Spec
set_option Elab.async false
set_option maxRecDepth 100000
set_option maxHeartbeats 8000000
namespace Mine
section
variable {w : World} {mean : ExcName → Option Value} {mg mb : Str → Option Value} {news : List (Addr × Obj)}
  {dp un : Nat} {gd : Option (List Code)} {cn : Str} {cs : Scope} {a : Addr} {ccd : Value} {cl : List (Str × Addr)} {outer : List Env} {A₀ : Around} {base h₀ : Heap} {L : Addr} {m : Str → Option Value} {s : Shared} {Q E : Value → Shared → Prop}
theorem bp3_use {e : Nat} {l : Addr} {c : Nat} {r1 : Addr} {c1 : Nat} {r2 : Addr} {c2 : Nat} {r3 : Addr} {c3 : Nat} {a11 : Addr} {p11 : Rat} {s11 u11 : Tok} {k11 : Nat} {a12 : Addr} {p12 : Rat} {s12 u12 : Tok} {k12 : Nat} {a13 : Addr} {p13 : Rat} {s13 u13 : Tok} {k13 : Nat} {a21 : Addr} {p21 : Rat} {s21 u21 : Tok} {k21 : Nat} {a22 : Addr} {p22 : Rat} {s22 u22 : Tok} {k22 : Nat} {a23 : Addr} {p23 : Rat} {s23 u23 : Tok} {k23 : Nat} {a31 : Addr} {p31 : Rat} {s31 u31 : Tok} {k31 : Nat} {a32 : Addr} {p32 : Rat} {s32 u32 : Tok} {k32 : Nat} {a33 : Addr} {p33 : Rat} {s33 u33 : Tok} {k33 : Nat} (B : Below A₀ base outer h₀) (F : Fr h₀ L s.heap m) (X : (hd.heap_39 w.params).In h₀) (N : News h₀ L s.heap news) (T : Top hd.view_39 LO mean mg mb h₀) (hk : cs.kind = .function) (hd : dp + 7 < recursionLimit) (hu : un + 8 * 7 < cLine) (G : Great mg) (hl : (l, listObj [.ref r1, .ref r2, .ref r3] c) ∈ news) (hr1 : (r1, listObj [.ref a11, .ref a12, .ref a13] c1) ∈ news) (hr2 : (r2, listObj [.ref a21, .ref a22, .ref a23] c2) ∈ news) (hr3 : (r3, listObj [.ref a31, .ref a32, .ref a33] c3) ∈ news) (h11 : (a11, tup2 p11.num s11 p11.den u11 k11) ∈ news) (h12 : (a12, tup2 p12.num s12 p12.den u12 k12) ∈ news) (h13 : (a13, tup2 p13.num s13 p13.den u13 k13) ∈ news) (h21 : (a21, tup2 p21.num s21 p21.den u21 k21) ∈ news) (h22 : (a22, tup2 p22.num s22 p22.den u22 k22) ∈ news) (h23 : (a23, tup2 p23.num s23 p23.den u23 k23) ∈ news) (h31 : (a31, tup2 p31.num s31 p31.den u31 k31) ∈ news) (h32 : (a32, tup2 p32.num s32 p32.den u32 k32) ∈ news) (h33 : (a33, tup2 p33.num s33 p33.den u33 k33) ∈ news) (z11 : Sz e p11) (z12 : Sz e p12) (z13 : Sz e p13) (z21 : Sz e p21) (z22 : Sz e p22) (z23 : Sz e p23) (z31 : Sz e p31) (z32 : Sz e p32) (z33 : Sz e p33) (hs : 15 * e + 40 ≤ 2300)
    (ret : ∀ D u1 u2 c h' tk', Fr h₀ L h' m → News h₀ L h' ((D, tup2 (p11 * (p22 * p33 + -(p23 * p32)) + -(p12 * (p21 * p33 + -(p23 * p31))) + p13 * (p21 * p32 + -(p22 * p31))).num u1 (p11 * (p22 * p33 + -(p23 * p32)) + -(p12 * (p21 * p33 + -(p23 * p31))) + p13 * (p21 * p32 + -(p22 * p31))).den u2 c) :: news) → AllLt D news → Sz (15 * e + 5) (p11 * (p22 * p33 + -(p23 * p32)) + -(p12 * (p21 * p33 + -(p23 * p31))) + p13 * (p21 * p32 + -(p22 * p31))) → Q (.ref D) { s with heap := h', toks := tk' }) :
    wpAny (model PR w) (ktrTop dp un gd cn cs L a ccd cl outer) (call (.ref 148) [.ref l]) Q E s :=
  use_rat (bp3_does w mean mg mb G news e l c r1 c1 r2 c2 r3 c3 a11 p11 s11 u11 k11 a12 p12 s12 u12 k12 a13 p13 s13 u13 k13 a21 p21 s21 u21 k21 a22 p22 s22 u22 k22 a23 p23 s23 u23 k23 a31 p31 s31 u31 k31 a32 p32 s32 u32 k32 a33 p33 s33 u33 k33 hl hr1 hr2 hr3 h11 z11 h12 z12 h13 z13 h21 z21 h22 z22 h23 z23 h31 z31 h32 z32 h33 z33 hs) B F X N T hk hd hu fun D u1 u2 c h' tk' F' N' l => ret D u1 u2 c h' tk' F' N' l ((Sz.add (Sz.add (Sz.mul z11 (Sz.add (Sz.mul z22 z33) (Sz.neg (Sz.mul z23 z32)))) (Sz.neg (Sz.mul z12 (Sz.add (Sz.mul z21 z33) (Sz.neg (Sz.mul z23 z31)))))) (Sz.mul z13 (Sz.add (Sz.mul z21 z32) (Sz.neg (Sz.mul z22 z31))))).mono (by omega))
end
def SolvedPost (x1 x2 x3 : Rat) (news news' : List (Addr × Obj)) (r : Value) : Prop :=
  ∃ D c a1 s1 u1 k1 a2 s2 u2 k2 a3 s3 u3 k3 tl, r = .ref D ∧ (D, listObj [.ref a1, .ref a2, .ref a3] c) ∈ news' ∧ (a1, tup2 x1.num s1 x1.den u1 k1) ∈ news' ∧ (a2, tup2 x2.num s2 x2.den u2 k2) ∈ news' ∧ (a3, tup2 x3.num s3 x3.den u3 k3) ∈ news' ∧
    Sz 70 x1 ∧ Sz 70 x2 ∧ Sz 70 x3 ∧ news' = tl ++ news ∧ (∀ p ∈ tl, ∀ q ∈ news, q.1 ≠ p.1)
theorem solved_ret {x1 x2 x3 : Rat} {h₀ h' : Heap} {L : Addr} {m : Str → Option Value} {s : Shared} {Q : Value → Shared → Prop} {news all : List (Addr × Obj)} {tk : Nat} {D : Addr} {c : Nat} {a1 a2 a3 : Addr} {s1 u1 s2 u2 s3 u3 : Tok} {k1 k2 k3 : Nat}
    (hret : ∀ r news' h' tk', Fr h₀ L h' m → News h₀ L h' news' → SolvedPost x1 x2 x3 news news' r → Q r { s with heap := h', toks := tk' })
    (F' : Fr h₀ L h' m) (N : News h₀ L h' all) (hs : ∀ p ∈ news, p ∈ all) (hD : (D, listObj [.ref a1, .ref a2, .ref a3] c) ∈ all) (h1 : (a1, tup2 x1.num s1 x1.den u1 k1) ∈ all) (h2 : (a2, tup2 x2.num s2 x2.den u2 k2) ∈ all) (h3 : (a3, tup2 x3.num s3 x3.den u3 k3) ∈ all)
    (z1 : Sz 70 x1) (z2 : Sz 70 x2) (z3 : Sz 70 x3) : Q (.ref D) { s with heap := h', toks := tk } := by
  obtain ⟨tl, b1, b2, b3⟩ := split_ledger N hs
  exact hret _ (tl ++ news) _ _ F' (fun p hp => N p (b2 p hp)) ⟨D, c, a1, s1, u1, k1, a2, s2, u2, k2, a3, s3, u3, k3, tl, rfl, b1 _ hD, b1 _ h1, b1 _ h2, b1 _ h3, z1, z2, z3, rfl, b3⟩
local macro_rules | `(tactic| k_mem) => `(tactic| ((repeat' (first | (with_reducible exact List.mem_cons_self ..) | ktr_member | (with_reducible refine List.mem_cons_of_mem _ ?_))); done))
local macro_rules | `(tactic| mul_fits) => `(tactic| exact Fit.mul (by assumption) (by assumption))
local macro_rules | `(tactic| k_lt $h:ident) => `(tactic| replace $h := allLt_of $h)
local macro_rules | `(tactic| k_ne) => `(tactic| ((refine neN ?_); (try dsimp only); first | (with_reducible assumption) | (refine' Ne3.ci ?oa; (case oa => with_reducible assumption)) | (refine' Ne3.di ?oa; (case oa => with_reducible assumption)) | (refine' Ne3.dc ?oa; (case oa => with_reducible assumption)) | (refine' ne_lt ?oa ?ob; (case oa => with_reducible assumption); (case ob => k_mem)) | (refine' ne_lt' ?oa ?ob; (case oa => with_reducible assumption); (case ob => k_mem)) | (refine' ne_off1 ?oa ?ob; (case oa => with_reducible assumption); (case ob => k_mem)) | (refine' ne_off1' ?oa ?ob; (case oa => with_reducible assumption); (case ob => k_mem)) | (refine' ne_off3I ?oa ?ob; (case oa => with_reducible assumption); (case ob => k_mem)) | (refine' ne_off3C ?oa ?ob; (case oa => with_reducible assumption); (case ob => k_mem)) | (refine' ne_off3D ?oa ?ob; (case oa => with_reducible assumption); (case ob => k_mem)) | (refine' ne_off3I' ?oa ?ob; (case oa => with_reducible assumption); (case ob => k_mem)) | (refine' ne_off3C' ?oa ?ob; (case oa => with_reducible assumption); (case ob => k_mem)) | (refine' ne_off3D' ?oa ?ob; (case oa => with_reducible assumption); (case ob => k_mem)) | omega))
local macro_rules | `(tactic| k_all) => `(tactic| ((repeat' (first | (with_reducible refine' List.forall_mem_cons.mpr ⟨?_, ?_⟩) | exact List.forall_mem_nil _ | (refine' ne_id ?oa; (case oa => with_reducible assumption)) | (refine' tail_lt ?oa ?ob; (case oa => with_reducible assumption); (case ob => kcj_all)) | (refine' tail_off1 ?oa ?ob; (case oa => with_reducible assumption); (case ob => kcj_all)) | (refine' tail_off3I ?oa ?ob; (case oa => with_reducible assumption); (case ob => kcj_all)) | (refine' tail_off3C ?oa ?ob; (case oa => with_reducible assumption); (case ob => kcj_all)) | (refine' tail_off3D ?oa ?ob; (case oa => with_reducible assumption); (case ob => kcj_all)) | (refine' ne_of_allLt_le ?oa ?ob; (case oa => with_reducible assumption); (case ob => omega)) | k_ne)); done))
local macro_rules | `(tactic| k_upd) => `(tactic| ((repeat' (first | (with_reducible refine' Del.head ?_) | (with_reducible refine' Del.tail ?_ ?_) | (with_reducible refine' Upd.head ?_) | (with_reducible refine' Upd.tail ?_ ?_) | (with_reducible refine' UpdF.head ?_) | (with_reducible refine' UpdF.tail ?_ ?_) | k_all | k_ne)); done))
local macro_rules | `(tactic| kcj_all) => `(tactic| ((repeat' (first | (with_reducible exact mem_same) | exact List.forall_mem_nil _ | (with_reducible refine' List.forall_mem_cons.mpr ⟨?_, ?_⟩) | (with_reducible refine' mem_step ?_) | k_mem)); done))
local macro_rules | `(tactic| walk_at "exec For Name Name cons nil") => `(tactic| (k_here; (rename Fr _ _ _ _ => lF'); (with_unfolding_all refine' For_invVF lF' ?k1 ?k2 ?_; (case k1 => exact rfl); (case k2 => exact rfl); k_whole); l_hasStore))
local macro_rules | `(tactic| walk_at "pyIter ref") => `(tactic| ((with_reducible show wpAny _ _ (pyIter (Value.ref _)) (fun it s₂ => LoopAtV _ _ _ _ _ _ _ _ _ it s₂) _ _); (rename Fr _ _ _ _ => lF'); (rename News _ _ _ _ => lN'); (with_unfolding_all refine' iter_listUnr ?hh lF' lN' ?hm ?hc ?hd ?_; (case hh => exact rfl); (case hm => k_mem); (case hc => exact rfl); (case hd => exact rfl)); clear lF' lN'; intro i' l1; (have l1' := allLt_of l1); clear l1))
local macro_rules | `(tactic| walk_at "UnrEnd") => `(tactic| (k_here; k_dflt (refine' unr_end ?F ?N ?D ?_; (case F => k_asm); (case N => k_asm); (case D => k_upd)); (try (refine ⟨by k_mem, ?_⟩)))) 
local macro_rules | `(tactic| walk_at "exec For Name Call cons nil") => `(tactic| (k_here; k_dflt (refine For_C ?_)))
local macro_rules | `(tactic| walk_at "pyIter ref") => `(tactic| ((with_reducible show wpAny _ _ (pyIter (Value.ref _)) (LoopC _ _ _ _ _ _ _ _ _) _ _); (rename Fr _ _ _ _ => lF'); (rename News _ _ _ _ => lN'); (rename IsRange _ _ _ _ _ _ _ _ => lR'); (with_unfolding_all refine' iter_rangeC ?hh lR' ?hs ?hn ?hz lF' lN' ?hE ?_; (case hh => exact rfl); (case hs => first | decide | rfl); (case hn => first | exact Eq.trans (b := [0, 1]) rfl rfl | exact Eq.trans (b := [0, 1, 2]) rfl rfl | exact Eq.trans (b := [1, 2]) rfl rfl | exact Eq.trans (b := [1]) rfl rfl | exact Eq.trans (b := [2]) rfl rfl | exact Eq.trans (b := [0]) rfl rfl | exact Eq.trans (b := ([] : List Int)) rfl rfl | exact Eq.trans (b := [0, 1, 2, 3]) rfl rfl); (case hz => decide); (case hE => first | passes_own | with_unfolding_all passes_own)); clear lF' lN' lR'; intro i' l1; (have l1' := allLt_of l1); clear l1))
local macro_rules | `(tactic| walk_at "TurnsC") => `(tactic| (with_unfolding_all first | (refine TurnsC.succ (fun it' t' h' tk' F' N' => ?_)) | (refine TurnsC.zero (fun h' tk' F' N' => ?_))))
local macro_rules | `(tactic| walk_at "CompRest") => `(tactic| (with_unfolding_all first
  | (refine LCg.CompRest.succ ?_; intro v' I' oI' C' oC' D' m' h' tk' E' hv' hC' hx' F' N' off' ne'; (first | lcg_open hv' | (obtain ⟨t9', hv9'⟩ := hv'; subst hv9')); (replace ne' := Ne3.mk' ne'))
  | refine LCg.CompRest.zero ?_))
local macro_rules | `(tactic| walk_at "CompEnd") => `(tactic| (k_here; k_dflt (refine' comp_keep ?F ?N ?O ?K ?h1 ?h2 ?h3 ?hs ?S ?_; (case F => k_asm); (case N => k_asm); (case O => with_reducible assumption); (case K => k_mem); (case h1 => k_ne); (case h2 => k_ne); (case h3 => k_ne); (case hs => ((repeat' (first | (with_reducible exact mem_same) | (with_reducible refine' mem_step ?_))); done)); (case S => lcg_src))))
local macro_rules | `(tactic| walk_at "FinE") => `(tactic| ((unfold LCg.FinE); intro D' h' tk' F' N' o1'; (try simp only [List.nil_append, List.cons_append] at N'); (try dsimp only)))
local macro_rules | `(tactic| walk_at "FinA") => `(tactic| ((unfold LCg.FinA); intro D' h' tk' F' N' o1'; (try simp only [List.nil_append, List.cons_append] at N'); (try dsimp only)))
local macro_rules | `(tactic| walk_at "UnrEnd") => `(tactic| (k_here; k_dflt (refine' unr_keep (o := tup2 _ _ _ _ _) ?F ?N ?hs ?K ?h1 ?off ?_; (case F => k_asm); (case N => k_asm); (case hs => ((repeat' (first | (with_reducible exact mem_same) | (with_reducible refine' mem_step ?_))); done)); (case K => k_mem); (case h1 => k_ne); (case off => k_all)); (try (refine ⟨by k_mem, ?_⟩))))
local macro_rules | `(tactic| walk_at "call ref") => `(tactic| (k_here; (with_reducible show wpAny _ _ (call (Value.ref 74) _) _ _ _); k_dflt (refine' sum_use ?k1 ?k2 ?k3 ?k4 ?k5 ?kK ?kd ?ku ?g ?hx ?hy ?i1 ?i2 ?i3 ?i4 ?hp ?hq ?hs ?_; (case k1 => k_asm); (case k2 => k_asm); (case k3 => k_asm); (case k4 => k_asm); (case k5 => k_asm); (case kK => first | exact rfl | assumption); (case kd => ktr_room); (case ku => ktr_units); (case g => assumption); (case hx => k_mem); (case hy => k_mem); (case i1 => first | exact rfl | exact num0 | exact num1); (case i2 => first | exact rfl | exact den0 | exact den1); (case i3 => first | exact rfl | exact num0 | exact num1); (case i4 => first | exact rfl | exact den0 | exact den1); (case hp => first | (with_reducible assumption) | exact Sz.zero | exact Sz.one); (case hq => first | (with_reducible assumption) | exact Sz.zero | exact Sz.one); (case hs => omega); k_whole); intro D' u1' u2' c' h' tk' F' N' l1' sz'; (try dsimp only); (try k_fold)))
local macro_rules | `(tactic| walk_at "call ref") => `(tactic| (k_here; (with_reducible show wpAny _ _ (call (Value.ref 81) _) _ _ _); k_dflt (refine' diff_use ?k1 ?k2 ?k3 ?k4 ?k5 ?kK ?kd ?ku ?g ?hx ?hy ?i1 ?i2 ?i3 ?i4 ?hp ?hq ?hs ?_; (case k1 => k_asm); (case k2 => k_asm); (case k3 => k_asm); (case k4 => k_asm); (case k5 => k_asm); (case kK => first | exact rfl | assumption); (case kd => ktr_room); (case ku => ktr_units); (case g => assumption); (case hx => k_mem); (case hy => k_mem); (case i1 => first | exact rfl | exact num0 | exact num1); (case i2 => first | exact rfl | exact den0 | exact den1); (case i3 => first | exact rfl | exact num0 | exact num1); (case i4 => first | exact rfl | exact den0 | exact den1); (case hp => first | (with_reducible assumption) | exact Sz.zero | exact Sz.one); (case hq => first | (with_reducible assumption) | exact Sz.zero | exact Sz.one); (case hs => omega); k_whole); intro D' u1' u2' c' h' tk' F' N' l1' sz'; (try dsimp only); (try k_fold)))
local macro_rules | `(tactic| walk_at "call ref") => `(tactic| (k_here; (with_reducible show wpAny _ _ (call (Value.ref 88) _) _ _ _); k_dflt (refine' prod_use ?k1 ?k2 ?k3 ?k4 ?k5 ?kK ?kd ?ku ?g ?hx ?hy ?i1 ?i2 ?i3 ?i4 ?hp ?hq ?hs ?_; (case k1 => k_asm); (case k2 => k_asm); (case k3 => k_asm); (case k4 => k_asm); (case k5 => k_asm); (case kK => first | exact rfl | assumption); (case kd => ktr_room); (case ku => ktr_units); (case g => assumption); (case hx => k_mem); (case hy => k_mem); (case i1 => first | exact rfl | exact num0 | exact num1); (case i2 => first | exact rfl | exact den0 | exact den1); (case i3 => first | exact rfl | exact num0 | exact num1); (case i4 => first | exact rfl | exact den0 | exact den1); (case hp => first | (with_reducible assumption) | exact Sz.zero | exact Sz.one); (case hq => first | (with_reducible assumption) | exact Sz.zero | exact Sz.one); (case hs => omega); k_whole); intro D' u1' u2' c' h' tk' F' N' l1' sz'; (try dsimp only); (try k_fold)))
local macro_rules | `(tactic| walk_at "call ref") => `(tactic| (k_here; (with_reducible show wpAny _ _ (call (Value.ref 95) _) _ _ _); k_dflt (refine' quot_use ?k1 ?k2 ?k3 ?k4 ?k5 ?kK ?kd ?ku ?g ?hx ?hy ?i1 ?i2 ?i3 ?i4 ?hp ?hq ?hs ?hn ?_; (case k1 => k_asm); (case k2 => k_asm); (case k3 => k_asm); (case k4 => k_asm); (case k5 => k_asm); (case kK => first | exact rfl | assumption); (case kd => ktr_room); (case ku => ktr_units); (case g => assumption); (case hx => k_mem); (case hy => k_mem); (case i1 => first | exact rfl | exact num0 | exact num1); (case i2 => first | exact rfl | exact den0 | exact den1); (case i3 => first | exact rfl | exact num0 | exact num1); (case i4 => first | exact rfl | exact den0 | exact den1); (case hp => first | (with_reducible assumption) | exact Sz.zero | exact Sz.one); (case hq => first | (with_reducible assumption) | exact Sz.zero | exact Sz.one); (case hs => omega); (case hn => assumption); k_whole); intro D' u1' u2' c' h' tk' F' N' l1' sz'; (try dsimp only); (try k_fold)))
local macro_rules | `(tactic| walk_at "call ref") => `(tactic| (k_here; (with_reducible show wpAny _ _ (call (Value.ref 102) _) _ _ _); k_dflt (refine' neg_use ?k1 ?k2 ?k3 ?k4 ?k5 ?kK ?kd ?ku ?hx ?i1 ?i2 ?hp ?_; (case k1 => k_asm); (case k2 => k_asm); (case k3 => k_asm); (case k4 => k_asm); (case k5 => k_asm); (case kK => first | exact rfl | assumption); (case kd => ktr_room); (case ku => ktr_units); (case hx => k_mem); (case i1 => first | exact rfl | exact num0 | exact num1); (case i2 => first | exact rfl | exact den0 | exact den1); (case hp => first | (with_reducible assumption) | exact Sz.zero | exact Sz.one); k_whole); intro D' u1' u2' c' h' tk' F' N' l1' sz'; (try dsimp only); (try k_fold)))
local macro_rules | `(tactic| walk_at "call ref") => `(tactic| (k_here; (with_reducible show wpAny _ _ (call (Value.ref 116) _) _ _ _); k_dflt (refine' order_use ?k1 ?k2 ?k3 ?k4 ?k5 ?kK ?kd ?ku ?hx ?hy ?i1 ?i2 ?i3 ?i4 ?hp ?hq ?hs ?_; (case k1 => k_asm); (case k2 => k_asm); (case k3 => k_asm); (case k4 => k_asm); (case k5 => k_asm); (case kK => first | exact rfl | assumption); (case kd => ktr_room); (case ku => ktr_units); (case hx => k_mem); (case hy => k_mem); (case i1 => first | exact rfl | exact num0 | exact num1); (case i2 => first | exact rfl | exact den0 | exact den1); (case i3 => first | exact rfl | exact num0 | exact num1); (case i4 => first | exact rfl | exact den0 | exact den1); (case hp => first | (with_reducible assumption) | exact Sz.zero | exact Sz.one); (case hq => first | (with_reducible assumption) | exact Sz.zero | exact Sz.one); (case hs => omega); k_whole); intro u' h' tk' F' N'; (try dsimp only); (try k_fold)))
local macro_rules | `(tactic| walk_at "subscriptTail") => `(tactic| (k_here; (with_reducible show wpAny _ _ (subscriptTail _ _ (Value.ref _) (Value.int _ _)) _ _ _); k_dflt (refine' item_led ?N ?m ?a ?b ?x ?_; (case N => k_asm); (case m => k_mem); (case a => decide); (case b => decide); (case x => exact rfl); k_whole)))
local macro_rules | `(tactic| walk_at "subscriptTail Name") => `(tactic| (k_here; (with_reducible show wpAny _ _ (subscriptTail _ _ (Value.ref _) (Value.int _ _)) _ _ _); k_dflt (refine' item_led ?N ?m ?a ?b ?x ?_; (case N => k_asm); (case m => k_mem); (case a => decide); (case b => decide); (case x => exact rfl); k_whole)))
local macro_rules | `(tactic| walk_at "subscriptTail Name Constant ref int") => `(tactic| (k_here; (with_reducible show wpAny _ _ (subscriptTail _ _ (Value.ref _) (Value.int _ _)) _ _ _); k_dflt (refine' item_led ?N ?m ?a ?b ?x ?_; (case N => k_asm); (case m => k_mem); (case a => decide); (case b => decide); (case x => exact rfl); k_whole)))
local macro_rules | `(tactic| walk_at "subscriptTail Name Name ref int") => `(tactic| (k_here; (with_reducible show wpAny _ _ (subscriptTail _ _ (Value.ref _) (Value.int _ _)) _ _ _); k_dflt (refine' item_led ?N ?m ?a ?b ?x ?_; (case N => k_asm); (case m => k_mem); (case a => decide); (case b => decide); (case x => exact rfl); k_whole)))
local macro_rules | `(tactic| walk_at "subscriptTail Subscript Name Constant Name ref int") => `(tactic| (k_here; (with_reducible show wpAny _ _ (subscriptTail _ _ (Value.ref _) (Value.int _ _)) _ _ _); k_dflt (refine' item_led ?N ?m ?a ?b ?x ?_; (case N => k_asm); (case m => k_mem); (case a => decide); (case b => decide); (case x => exact rfl); k_whole)))
local macro_rules | `(tactic| walk_at "subscriptTail Subscript Name Constant Constant ref int") => `(tactic| (k_here; (with_reducible show wpAny _ _ (subscriptTail _ _ (Value.ref _) (Value.int _ _)) _ _ _); k_dflt (refine' item_led ?N ?m ?a ?b ?x ?_; (case N => k_asm); (case m => k_mem); (case a => decide); (case b => decide); (case x => exact rfl); k_whole)))
local macro_rules | `(tactic| walk_at "subscriptTail Subscript Name Name Name ref int") => `(tactic| (k_here; (with_reducible show wpAny _ _ (subscriptTail _ _ (Value.ref _) (Value.int _ _)) _ _ _); k_dflt (refine' item_led ?N ?m ?a ?b ?x ?_; (case N => k_asm); (case m => k_mem); (case a => decide); (case b => decide); (case x => exact rfl); k_whole)))
local macro_rules | `(tactic| walk_at "subscriptTail Subscript Name Name Constant ref int") => `(tactic| (k_here; (with_reducible show wpAny _ _ (subscriptTail _ _ (Value.ref _) (Value.int _ _)) _ _ _); k_dflt (refine' item_led ?N ?m ?a ?b ?x ?_; (case N => k_asm); (case m => k_mem); (case a => decide); (case b => decide); (case x => exact rfl); k_whole)))
local macro_rules | `(tactic| walk_at "getItem ref int") => `(tactic| (k_here; (with_reducible show wpAny _ _ (getItem (Value.ref _) (Value.int _ _)) _ _ _); k_dflt (refine' getItem_led ?N ?m ?a ?b ?x ?_; (case N => k_asm); (case m => k_mem); (case a => decide); (case b => decide); (case x => exact rfl); k_whole)))
local macro_rules | `(tactic| walk_at "callWith builtin:list.append cons nil") => `(tactic| refine callWith_method1 ?_)
local macro_rules | `(tactic| walk_at "callWith builtin:len nil nil") => `(tactic| refine callWith_builtin1 ?_)
local macro_rules | `(tactic| walk_at "callWith builtin:len cons nil") => `(tactic| refine callWith_builtin1 ?_)
local macro_rules | `(tactic| walk_at "exec Assign cons ListComp") => `(tactic| (k_here; k_dflt (refine LCg.Assign_ListComp_U (F₀ := by k_asm) (by rfl) (by with_unfolding_all rfl) (by with_unfolding_all rfl) (by decide) (by rfl) (by decide) (by rfl) (by rfl) (by rfl) ?_)))
local macro_rules | `(tactic| walk_at "CompSrc") => `(tactic| (k_here; k_dflt (refine' LCg.CompSrc.ledger ?hh ?F ?N ?hm ?hz ?_; (case hh => exact rfl); (case F => k_asm); (case N => k_asm); (case hm => k_mem); (case hz => first | exact Nat.le_of_ble_eq_true rfl | size_fits)); intro g'; lcg_lit))
local macro_rules | `(tactic| walk_at "call builtin:list.append cons nil") => `(tactic| (k_here; k_dflt (refine' append_K ?k1 ?k2 ?k3 ?_ ?z; (case k1 => k_asm); (case k2 => k_asm); (case k3 => k_upd); (case z => size_fits); k_whole); intro h' F' N'; (try k_sweep)))
local macro_rules | `(tactic| walk_at "eval Name") => `(tactic| (k_here; (with_reducible show wpAny _ _ (eval (PySem.Expr.Name _ _) (envOfC _ _ _ _ _)) _ _ _); k_dflt (first | (refine' nameX_L ?F ?v ?_ ?a ?b; (case a => rfl); (case b => rfl); (case F => k_asm); (case v => rfl); k_whole) | (refine' nameX_C ?N ?c ?m ?d ?_ ?a ?b; (case a => rfl); (case b => rfl); (case N => k_asm); (case c => rfl); (case m => k_mem); (case d => with_reducible assumption); k_whole) | (refine' nameX_K ?F ?X ?T ?e ?_ ?a ?b; (case a => rfl); (case b => rfl); (case F => k_asm); (case X => k_asm); (case T => k_asm); (case e => k_is); k_whole))))
local macro_rules | `(tactic| walk_at "CompEnd") => `(tactic| (k_here; k_dflt (refine' comp_keep (o := listObj _ _) ?F ?N ?O ?K ?h1 ?h2 ?h3 ?hs ?S ?_; (case F => k_asm); (case N => k_asm); (case O => with_reducible assumption); (case K => k_mem); (case h1 => k_ne); (case h2 => k_ne); (case h3 => k_ne); (case hs => ((repeat' (first | (with_reducible exact mem_same) | (with_reducible refine' mem_step ?_))); done)); (case S => lcg_src))))
local macro_rules | `(tactic| walk_at "CompSrc") => `(tactic| (k_here; k_dflt (refine LCg.CompSrc.range (by rfl) (by k_asm) (by k_asm) (by assumption) (by first | decide | rfl) (by first | rfl | decide) (by first | size_fits | exact Nat.le_of_ble_eq_true rfl) ?_; intro g'; lcg_lit)))
local macro_rules | `(tactic| walk_at "call ref") => `(tactic| (k_here; (with_reducible show wpAny _ _ (call (Value.ref 148) _) _ _ _); k_dflt (refine' bp3_use ?k1 ?k2 ?k3 ?k4 ?k5 ?kK ?kd ?ku ?g ?hl ?hr1 ?hr2 ?hr3 ?h11 ?h12 ?h13 ?h21 ?h22 ?h23 ?h31 ?h32 ?h33 ?z11 ?z12 ?z13 ?z21 ?z22 ?z23 ?z31 ?z32 ?z33 ?hs ?_; (case k1 => k_asm); (case k2 => k_asm); (case k3 => k_asm); (case k4 => k_asm); (case k5 => k_asm); (case kK => first | exact rfl | assumption); (case kd => ktr_room); (case ku => ktr_units); (case g => assumption); (case hl => k_mem); (case hr1 => k_mem); (case hr2 => k_mem); (case hr3 => k_mem); (case h11 => k_mem); (case h12 => k_mem); (case h13 => k_mem); (case h21 => k_mem); (case h22 => k_mem); (case h23 => k_mem); (case h31 => k_mem); (case h32 => k_mem); (case h33 => k_mem); (case z11 => with_reducible assumption); (case z12 => with_reducible assumption); (case z13 => with_reducible assumption); (case z21 => with_reducible assumption); (case z22 => with_reducible assumption); (case z23 => with_reducible assumption); (case z31 => with_reducible assumption); (case z32 => with_reducible assumption); (case z33 => with_reducible assumption); (case hs => omega); k_whole); intro D' u1' u2' c' h' tk' F' N' l1' sz'; (try dsimp only); (try k_fold)))
theorem solved_does (w : World) (mean : ExcName → Option Value) (mg mb : Str → Option Value) (G : Great mg) (news : List (Addr × Obj)) (l : Addr) (c : Nat) (r1 : Addr) (c1 : Nat) (r2 : Addr) (c2 : Nat) (r3 : Addr) (c3 : Nat) (a11 : Addr) (p11 : Rat) (s11 u11 : Tok) (k11 : Nat) (a12 : Addr) (p12 : Rat) (s12 u12 : Tok) (k12 : Nat) (a13 : Addr) (p13 : Rat) (s13 u13 : Tok) (k13 : Nat) (a21 : Addr) (p21 : Rat) (s21 u21 : Tok) (k21 : Nat) (a22 : Addr) (p22 : Rat) (s22 u22 : Tok) (k22 : Nat) (a23 : Addr) (p23 : Rat) (s23 u23 : Tok) (k23 : Nat) (a31 : Addr) (p31 : Rat) (s31 u31 : Tok) (k31 : Nat) (a32 : Addr) (p32 : Rat) (s32 u32 : Tok) (k32 : Nat) (a33 : Addr) (p33 : Rat) (s33 u33 : Tok) (k33 : Nat)
    (hl : (l, listObj [.ref r1, .ref r2, .ref r3] c) ∈ news) (hr1 : (r1, listObj [.ref a11, .ref a12, .ref a13] c1) ∈ news) (hr2 : (r2, listObj [.ref a21, .ref a22, .ref a23] c2) ∈ news) (hr3 : (r3, listObj [.ref a31, .ref a32, .ref a33] c3) ∈ news) (h11 : (a11, tup2 p11.num s11 p11.den u11 k11) ∈ news) (z11 : Sz 2 p11) (h12 : (a12, tup2 p12.num s12 p12.den u12 k12) ∈ news) (z12 : Sz 2 p12) (h13 : (a13, tup2 p13.num s13 p13.den u13 k13) ∈ news) (z13 : Sz 2 p13) (h21 : (a21, tup2 p21.num s21 p21.den u21 k21) ∈ news) (z21 : Sz 2 p21) (h22 : (a22, tup2 p22.num s22 p22.den u22 k22) ∈ news) (z22 : Sz 2 p22) (h23 : (a23, tup2 p23.num s23 p23.den u23 k23) ∈ news) (z23 : Sz 2 p23) (h31 : (a31, tup2 p31.num s31 p31.den u31 k31) ∈ news) (z31 : Sz 2 p31) (h32 : (a32, tup2 p32.num s32 p32.den u32 k32) ∈ news) (z32 : Sz 2 p32) (h33 : (a33, tup2 p33.num s33 p33.den u33 k33) ∈ news) (z33 : Sz 2 p33) (lg : Addr) (cg : Nat) (g1 : Addr) (b1 : Rat) (sg1 ug1 : Tok) (kg1 : Nat) (g2 : Addr) (b2 : Rat) (sg2 ug2 : Tok) (kg2 : Nat) (g3 : Addr) (b3 : Rat) (sg3 ug3 : Tok) (kg3 : Nat) (hlg : (lg, listObj [.ref g1, .ref g2, .ref g3] cg) ∈ news) (hg1 : (g1, tup2 b1.num sg1 b1.den ug1 kg1) ∈ news) (zg1 : Sz 2 b1) (hg2 : (g2, tup2 b2.num sg2 b2.den ug2 kg2) ∈ news) (zg2 : Sz 2 b2) (hg3 : (g3, tup2 b3.num sg3 b3.den ug3 kg3) ∈ news) (zg3 : Sz 2 b3) (hnz : p11 * (p22 * p33 + -(p23 * p32)) + -(p12 * (p21 * p33 + -(p23 * p31))) + p13 * (p21 * p32 + -(p22 * p31)) ≠ 0) :
    Does w mean mg mb 10 170 news [.ref l, .ref lg] (SolvedPost ((b1 * (p22 * p33 + -(p23 * p32)) + -(p12 * (b2 * p33 + -(p23 * b3))) + p13 * (b2 * p32 + -(p22 * b3))) / (p11 * (p22 * p33 + -(p23 * p32)) + -(p12 * (p21 * p33 + -(p23 * p31))) + p13 * (p21 * p32 + -(p22 * p31)))) ((p11 * (b2 * p33 + -(p23 * b3)) + -(b1 * (p21 * p33 + -(p23 * p31))) + p13 * (p21 * b3 + -(b2 * p31))) / (p11 * (p22 * p33 + -(p23 * p32)) + -(p12 * (p21 * p33 + -(p23 * p31))) + p13 * (p21 * p32 + -(p22 * p31)))) ((p11 * (p22 * b3 + -(b2 * p32)) + -(p12 * (p21 * b3 + -(b2 * p31))) + b1 * (p21 * p32 + -(p22 * p31))) / (p11 * (p22 * p33 + -(p23 * p32)) + -(p12 * (p21 * p33 + -(p23 * p31))) + p13 * (p21 * p32 + -(p22 * p31)))) news) := by
  intro dp un gd cn cs a ccd cl outer A₀ base h₀ L m s Q E B F X N T hk hd hu hret
  refine wpAny_call ?_
  k_dflt (refine' code_defC (binds := [(PySem.Str.ofString "rows", .ref l), (PySem.Str.ofString "goals", .ref lg)]) ?k1 ?k2 ?k3 ?k4 ?k5 ?kA ?kF ?kK ?k6 ?k7 ?k8 ?k9 ?kB ?kD ?_ ?c2 ?c3 ?c4; (case kA => exact rfl); (case kF => exact rfl); (case kK => assumption); (case k1 => k_asm); (case k2 => k_asm); (case k3 => k_asm); (case k4 => k_asm); (case k5 => k_asm); (case k6 => k_is); (case k7 => k_is); (case k8 => ktr_room); (case k9 => exact BindsTo.of_eq rfl); (case kB => exact rfl); (case kD => decide +kernel); (case c2 => exact rfl); (case c3 => exact rfl); (case c4 => exact rfl); k_whole)
  intro g' L' h' tk' cells' FG' F' N' Y' B' X' T' l1
  have l2 := allLt_of l1
  have l3 : AllLt (L' + 1) _ := AllLt.mono l2 (Nat.le_succ _)
  have l4 : AllLt (L' + 1 + 1) _ := AllLt.mono l3 (Nat.le_succ _)
  k_cells Y'
  (try simp only [List.cons_append, List.nil_append] at N')
  (try dsimp only)
  (try k_fold)
  k_steps
  
  all_goals (refine' solved_ret hret ?F ?N ?hs ?hD ?h1 ?h2 ?h3 ?z1 ?z2 ?z3; (case F => k_asm); (case N => k_asm); (case hs => kcj_all); (case hD => k_mem); (case h1 => k_mem); (case h2 => k_mem); (case h3 => k_mem); (case z1 => with_reducible assumption); (case z2 => with_reducible assumption); (case z3 => with_reducible assumption))
end Mine
end
section
open PySem PySem.W PyProof.Rows PySem.Calls PySem.Spec
set_option Elab.async false
set_option maxRecDepth 100000
set_option maxHeartbeats 8000000
namespace Mine
local macro_rules | `(tactic| k_mem) => `(tactic| ((repeat' (first | (with_reducible exact List.mem_cons_self ..) | ktr_member | (with_reducible refine List.mem_cons_of_mem _ ?_))); done))
local macro_rules | `(tactic| mul_fits) => `(tactic| exact Fit.mul (by assumption) (by assumption))
local macro_rules | `(tactic| k_lt $h:ident) => `(tactic| replace $h := allLt_of $h)
local macro_rules | `(tactic| k_ne) => `(tactic| ((refine neN ?_); (try dsimp only); first | (with_reducible assumption) | (refine' Ne3.ci ?oa; (case oa => with_reducible assumption)) | (refine' Ne3.di ?oa; (case oa => with_reducible assumption)) | (refine' Ne3.dc ?oa; (case oa => with_reducible assumption)) | (refine' ne_lt ?oa ?ob; (case oa => with_reducible assumption); (case ob => k_mem)) | (refine' ne_lt' ?oa ?ob; (case oa => with_reducible assumption); (case ob => k_mem)) | (refine' ne_off1 ?oa ?ob; (case oa => with_reducible assumption); (case ob => k_mem)) | (refine' ne_off1' ?oa ?ob; (case oa => with_reducible assumption); (case ob => k_mem)) | (refine' ne_off3I ?oa ?ob; (case oa => with_reducible assumption); (case ob => k_mem)) | (refine' ne_off3C ?oa ?ob; (case oa => with_reducible assumption); (case ob => k_mem)) | (refine' ne_off3D ?oa ?ob; (case oa => with_reducible assumption); (case ob => k_mem)) | (refine' ne_off3I' ?oa ?ob; (case oa => with_reducible assumption); (case ob => k_mem)) | (refine' ne_off3C' ?oa ?ob; (case oa => with_reducible assumption); (case ob => k_mem)) | (refine' ne_off3D' ?oa ?ob; (case oa => with_reducible assumption); (case ob => k_mem)) | omega))
local macro_rules | `(tactic| k_all) => `(tactic| ((repeat' (first | (with_reducible refine' List.forall_mem_cons.mpr ⟨?_, ?_⟩) | exact List.forall_mem_nil _ | (refine' ne_id ?oa; (case oa => with_reducible assumption)) | (refine' tail_lt ?oa ?ob; (case oa => with_reducible assumption); (case ob => kcj_all)) | (refine' tail_off1 ?oa ?ob; (case oa => with_reducible assumption); (case ob => kcj_all)) | (refine' tail_off3I ?oa ?ob; (case oa => with_reducible assumption); (case ob => kcj_all)) | (refine' tail_off3C ?oa ?ob; (case oa => with_reducible assumption); (case ob => kcj_all)) | (refine' tail_off3D ?oa ?ob; (case oa => with_reducible assumption); (case ob => kcj_all)) | (refine' ne_of_allLt_le ?oa ?ob; (case oa => with_reducible assumption); (case ob => omega)) | k_ne)); done))
local macro_rules | `(tactic| k_upd) => `(tactic| ((repeat' (first | (with_reducible refine' Del.head ?_) | (with_reducible refine' Del.tail ?_ ?_) | (with_reducible refine' Upd.head ?_) | (with_reducible refine' Upd.tail ?_ ?_) | (with_reducible refine' UpdF.head ?_) | (with_reducible refine' UpdF.tail ?_ ?_) | k_all | k_ne)); done))
local macro_rules | `(tactic| kcj_all) => `(tactic| ((repeat' (first | (with_reducible exact mem_same) | exact List.forall_mem_nil _ | (with_reducible refine' List.forall_mem_cons.mpr ⟨?_, ?_⟩) | (with_reducible refine' mem_step ?_) | k_mem)); done))
local macro_rules | `(tactic| walk_at "exec For Name Name cons nil") => `(tactic| (k_here; (rename Fr _ _ _ _ => lF'); (with_unfolding_all refine' For_invVF lF' ?k1 ?k2 ?_; (case k1 => exact rfl); (case k2 => exact rfl); k_whole); l_hasStore))
local macro_rules | `(tactic| walk_at "pyIter ref") => `(tactic| ((with_reducible show wpAny _ _ (pyIter (Value.ref _)) (fun it s₂ => LoopAtV _ _ _ _ _ _ _ _ _ it s₂) _ _); (rename Fr _ _ _ _ => lF'); (rename News _ _ _ _ => lN'); (with_unfolding_all refine' iter_listUnr ?hh lF' lN' ?hm ?hc ?hd ?_; (case hh => exact rfl); (case hm => k_mem); (case hc => exact rfl); (case hd => exact rfl)); clear lF' lN'; intro i' l1; (have l1' := allLt_of l1); clear l1))
local macro_rules | `(tactic| walk_at "UnrEnd") => `(tactic| (k_here; k_dflt (refine' unr_end ?F ?N ?D ?_; (case F => k_asm); (case N => k_asm); (case D => k_upd)); (try (refine ⟨by k_mem, ?_⟩)))) 
local macro_rules | `(tactic| walk_at "CompRest") => `(tactic| (with_unfolding_all first
  | (refine LCg.CompRest.succ ?_; intro v' I' oI' C' oC' D' m' h' tk' E' hv' hC' hx' F' N' off' ne'; (first | lcg_open hv' | (obtain ⟨t9', hv9'⟩ := hv'; subst hv9')); (replace ne' := Ne3.mk' ne'))
  | refine LCg.CompRest.zero ?_))
local macro_rules | `(tactic| walk_at "CompEnd") => `(tactic| (k_here; k_dflt (refine' comp_keep ?F ?N ?O ?K ?h1 ?h2 ?h3 ?hs ?S ?_; (case F => k_asm); (case N => k_asm); (case O => with_reducible assumption); (case K => k_mem); (case h1 => k_ne); (case h2 => k_ne); (case h3 => k_ne); (case hs => ((repeat' (first | (with_reducible exact mem_same) | (with_reducible refine' mem_step ?_))); done)); (case S => lcg_src))))
local macro_rules | `(tactic| walk_at "FinE") => `(tactic| ((unfold LCg.FinE); intro D' h' tk' F' N' o1'; (try simp only [List.nil_append, List.cons_append] at N'); (try dsimp only)))
local macro_rules | `(tactic| walk_at "FinA") => `(tactic| ((unfold LCg.FinA); intro D' h' tk' F' N' o1'; (try simp only [List.nil_append, List.cons_append] at N'); (try dsimp only)))
local macro_rules | `(tactic| walk_at "UnrEnd") => `(tactic| (k_here; k_dflt (refine' unr_keep (o := tup2 _ _ _ _ _) ?F ?N ?hs ?K ?h1 ?off ?_; (case F => k_asm); (case N => k_asm); (case hs => ((repeat' (first | (with_reducible exact mem_same) | (with_reducible refine' mem_step ?_))); done)); (case K => k_mem); (case h1 => k_ne); (case off => k_all)); (try (refine ⟨by k_mem, ?_⟩))))
local macro_rules | `(tactic| walk_at "call ref") => `(tactic| (k_here; (with_reducible show wpAny _ _ (call (Value.ref 74) _) _ _ _); k_dflt (refine' sum_use ?k1 ?k2 ?k3 ?k4 ?k5 ?kK ?kd ?ku ?g ?hx ?hy ?i1 ?i2 ?i3 ?i4 ?hp ?hq ?hs ?_; (case k1 => k_asm); (case k2 => k_asm); (case k3 => k_asm); (case k4 => k_asm); (case k5 => k_asm); (case kK => first | exact rfl | assumption); (case kd => ktr_room); (case ku => ktr_units); (case g => assumption); (case hx => k_mem); (case hy => k_mem); (case i1 => first | exact rfl | exact num0 | exact num1); (case i2 => first | exact rfl | exact den0 | exact den1); (case i3 => first | exact rfl | exact num0 | exact num1); (case i4 => first | exact rfl | exact den0 | exact den1); (case hp => first | (with_reducible assumption) | exact Sz.zero | exact Sz.one); (case hq => first | (with_reducible assumption) | exact Sz.zero | exact Sz.one); (case hs => omega); k_whole); intro D' u1' u2' c' h' tk' F' N' l1' sz'; (try dsimp only); (try k_fold)))
local macro_rules | `(tactic| walk_at "call ref") => `(tactic| (k_here; (with_reducible show wpAny _ _ (call (Value.ref 81) _) _ _ _); k_dflt (refine' diff_use ?k1 ?k2 ?k3 ?k4 ?k5 ?kK ?kd ?ku ?g ?hx ?hy ?i1 ?i2 ?i3 ?i4 ?hp ?hq ?hs ?_; (case k1 => k_asm); (case k2 => k_asm); (case k3 => k_asm); (case k4 => k_asm); (case k5 => k_asm); (case kK => first | exact rfl | assumption); (case kd => ktr_room); (case ku => ktr_units); (case g => assumption); (case hx => k_mem); (case hy => k_mem); (case i1 => first | exact rfl | exact num0 | exact num1); (case i2 => first | exact rfl | exact den0 | exact den1); (case i3 => first | exact rfl | exact num0 | exact num1); (case i4 => first | exact rfl | exact den0 | exact den1); (case hp => first | (with_reducible assumption) | exact Sz.zero | exact Sz.one); (case hq => first | (with_reducible assumption) | exact Sz.zero | exact Sz.one); (case hs => omega); k_whole); intro D' u1' u2' c' h' tk' F' N' l1' sz'; (try dsimp only); (try k_fold)))
local macro_rules | `(tactic| walk_at "call ref") => `(tactic| (k_here; (with_reducible show wpAny _ _ (call (Value.ref 88) _) _ _ _); k_dflt (refine' prod_use ?k1 ?k2 ?k3 ?k4 ?k5 ?kK ?kd ?ku ?g ?hx ?hy ?i1 ?i2 ?i3 ?i4 ?hp ?hq ?hs ?_; (case k1 => k_asm); (case k2 => k_asm); (case k3 => k_asm); (case k4 => k_asm); (case k5 => k_asm); (case kK => first | exact rfl | assumption); (case kd => ktr_room); (case ku => ktr_units); (case g => assumption); (case hx => k_mem); (case hy => k_mem); (case i1 => first | exact rfl | exact num0 | exact num1); (case i2 => first | exact rfl | exact den0 | exact den1); (case i3 => first | exact rfl | exact num0 | exact num1); (case i4 => first | exact rfl | exact den0 | exact den1); (case hp => first | (with_reducible assumption) | exact Sz.zero | exact Sz.one); (case hq => first | (with_reducible assumption) | exact Sz.zero | exact Sz.one); (case hs => omega); k_whole); intro D' u1' u2' c' h' tk' F' N' l1' sz'; (try dsimp only); (try k_fold)))
local macro_rules | `(tactic| walk_at "call ref") => `(tactic| (k_here; (with_reducible show wpAny _ _ (call (Value.ref 95) _) _ _ _); k_dflt (refine' quot_use ?k1 ?k2 ?k3 ?k4 ?k5 ?kK ?kd ?ku ?g ?hx ?hy ?i1 ?i2 ?i3 ?i4 ?hp ?hq ?hs ?hn ?_; (case k1 => k_asm); (case k2 => k_asm); (case k3 => k_asm); (case k4 => k_asm); (case k5 => k_asm); (case kK => first | exact rfl | assumption); (case kd => ktr_room); (case ku => ktr_units); (case g => assumption); (case hx => k_mem); (case hy => k_mem); (case i1 => first | exact rfl | exact num0 | exact num1); (case i2 => first | exact rfl | exact den0 | exact den1); (case i3 => first | exact rfl | exact num0 | exact num1); (case i4 => first | exact rfl | exact den0 | exact den1); (case hp => first | (with_reducible assumption) | exact Sz.zero | exact Sz.one); (case hq => first | (with_reducible assumption) | exact Sz.zero | exact Sz.one); (case hs => omega); (case hn => assumption); k_whole); intro D' u1' u2' c' h' tk' F' N' l1' sz'; (try dsimp only); (try k_fold)))
local macro_rules | `(tactic| walk_at "call ref") => `(tactic| (k_here; (with_reducible show wpAny _ _ (call (Value.ref 102) _) _ _ _); k_dflt (refine' neg_use ?k1 ?k2 ?k3 ?k4 ?k5 ?kK ?kd ?ku ?hx ?i1 ?i2 ?hp ?_; (case k1 => k_asm); (case k2 => k_asm); (case k3 => k_asm); (case k4 => k_asm); (case k5 => k_asm); (case kK => first | exact rfl | assumption); (case kd => ktr_room); (case ku => ktr_units); (case hx => k_mem); (case i1 => first | exact rfl | exact num0 | exact num1); (case i2 => first | exact rfl | exact den0 | exact den1); (case hp => first | (with_reducible assumption) | exact Sz.zero | exact Sz.one); k_whole); intro D' u1' u2' c' h' tk' F' N' l1' sz'; (try dsimp only); (try k_fold)))
local macro_rules | `(tactic| walk_at "call ref") => `(tactic| (k_here; (with_reducible show wpAny _ _ (call (Value.ref 116) _) _ _ _); k_dflt (refine' order_use ?k1 ?k2 ?k3 ?k4 ?k5 ?kK ?kd ?ku ?hx ?hy ?i1 ?i2 ?i3 ?i4 ?hp ?hq ?hs ?_; (case k1 => k_asm); (case k2 => k_asm); (case k3 => k_asm); (case k4 => k_asm); (case k5 => k_asm); (case kK => first | exact rfl | assumption); (case kd => ktr_room); (case ku => ktr_units); (case hx => k_mem); (case hy => k_mem); (case i1 => first | exact rfl | exact num0 | exact num1); (case i2 => first | exact rfl | exact den0 | exact den1); (case i3 => first | exact rfl | exact num0 | exact num1); (case i4 => first | exact rfl | exact den0 | exact den1); (case hp => first | (with_reducible assumption) | exact Sz.zero | exact Sz.one); (case hq => first | (with_reducible assumption) | exact Sz.zero | exact Sz.one); (case hs => omega); k_whole); intro u' h' tk' F' N'; (try dsimp only); (try k_fold)))
local macro_rules | `(tactic| walk_at "subscriptTail") => `(tactic| (k_here; (with_reducible show wpAny _ _ (subscriptTail _ _ (Value.ref _) (Value.int _ _)) _ _ _); k_dflt (refine' item_led ?N ?m ?a ?b ?x ?_; (case N => k_asm); (case m => k_mem); (case a => first | (with_reducible assumption) | decide); (case b => first | (with_reducible assumption) | decide); (case x => first | (with_reducible assumption) | exact rfl); k_whole)))
local macro_rules | `(tactic| walk_at "subscriptTail Name") => `(tactic| (k_here; (with_reducible show wpAny _ _ (subscriptTail _ _ (Value.ref _) (Value.int _ _)) _ _ _); k_dflt (refine' item_led ?N ?m ?a ?b ?x ?_; (case N => k_asm); (case m => k_mem); (case a => first | (with_reducible assumption) | decide); (case b => first | (with_reducible assumption) | decide); (case x => first | (with_reducible assumption) | exact rfl); k_whole)))
local macro_rules | `(tactic| walk_at "subscriptTail Name Constant ref int") => `(tactic| (k_here; (with_reducible show wpAny _ _ (subscriptTail _ _ (Value.ref _) (Value.int _ _)) _ _ _); k_dflt (refine' item_led ?N ?m ?a ?b ?x ?_; (case N => k_asm); (case m => k_mem); (case a => first | (with_reducible assumption) | decide); (case b => first | (with_reducible assumption) | decide); (case x => first | (with_reducible assumption) | exact rfl); k_whole)))
local macro_rules | `(tactic| walk_at "subscriptTail Name Name ref int") => `(tactic| (k_here; (with_reducible show wpAny _ _ (subscriptTail _ _ (Value.ref _) (Value.int _ _)) _ _ _); k_dflt (refine' item_led ?N ?m ?a ?b ?x ?_; (case N => k_asm); (case m => k_mem); (case a => first | (with_reducible assumption) | decide); (case b => first | (with_reducible assumption) | decide); (case x => first | (with_reducible assumption) | exact rfl); k_whole)))
local macro_rules | `(tactic| walk_at "subscriptTail Subscript Name Constant Name ref int") => `(tactic| (k_here; (with_reducible show wpAny _ _ (subscriptTail _ _ (Value.ref _) (Value.int _ _)) _ _ _); k_dflt (refine' item_led ?N ?m ?a ?b ?x ?_; (case N => k_asm); (case m => k_mem); (case a => first | (with_reducible assumption) | decide); (case b => first | (with_reducible assumption) | decide); (case x => first | (with_reducible assumption) | exact rfl); k_whole)))
local macro_rules | `(tactic| walk_at "subscriptTail Subscript Name Constant Constant ref int") => `(tactic| (k_here; (with_reducible show wpAny _ _ (subscriptTail _ _ (Value.ref _) (Value.int _ _)) _ _ _); k_dflt (refine' item_led ?N ?m ?a ?b ?x ?_; (case N => k_asm); (case m => k_mem); (case a => first | (with_reducible assumption) | decide); (case b => first | (with_reducible assumption) | decide); (case x => first | (with_reducible assumption) | exact rfl); k_whole)))
local macro_rules | `(tactic| walk_at "subscriptTail Subscript Name Name Name ref int") => `(tactic| (k_here; (with_reducible show wpAny _ _ (subscriptTail _ _ (Value.ref _) (Value.int _ _)) _ _ _); k_dflt (refine' item_led ?N ?m ?a ?b ?x ?_; (case N => k_asm); (case m => k_mem); (case a => first | (with_reducible assumption) | decide); (case b => first | (with_reducible assumption) | decide); (case x => first | (with_reducible assumption) | exact rfl); k_whole)))
local macro_rules | `(tactic| walk_at "subscriptTail Subscript Name Name Constant ref int") => `(tactic| (k_here; (with_reducible show wpAny _ _ (subscriptTail _ _ (Value.ref _) (Value.int _ _)) _ _ _); k_dflt (refine' item_led ?N ?m ?a ?b ?x ?_; (case N => k_asm); (case m => k_mem); (case a => first | (with_reducible assumption) | decide); (case b => first | (with_reducible assumption) | decide); (case x => first | (with_reducible assumption) | exact rfl); k_whole)))
local macro_rules | `(tactic| walk_at "getItem ref int") => `(tactic| (k_here; (with_reducible show wpAny _ _ (getItem (Value.ref _) (Value.int _ _)) _ _ _); k_dflt (refine' getItem_led ?N ?m ?a ?b ?x ?_; (case N => k_asm); (case m => k_mem); (case a => first | (with_reducible assumption) | decide); (case b => first | (with_reducible assumption) | decide); (case x => first | (with_reducible assumption) | exact rfl); k_whole)))
local macro_rules | `(tactic| walk_at "callWith builtin:list.append cons nil") => `(tactic| refine callWith_method1 ?_)
local macro_rules | `(tactic| walk_at "callWith builtin:len nil nil") => `(tactic| refine callWith_builtin1 ?_)
local macro_rules | `(tactic| walk_at "callWith builtin:len cons nil") => `(tactic| refine callWith_builtin1 ?_)
local macro_rules | `(tactic| walk_at "exec Assign cons ListComp") => `(tactic| (k_here; k_dflt (refine LCg.Assign_ListComp_U (F₀ := by k_asm) (by rfl) (by with_unfolding_all rfl) (by with_unfolding_all rfl) (by decide) (by rfl) (by decide) (by rfl) (by rfl) (by rfl) ?_)))
local macro_rules | `(tactic| walk_at "CompSrc") => `(tactic| (k_here; k_dflt (refine' LCg.CompSrc.ledger ?hh ?F ?N ?hm ?hz ?_; (case hh => exact rfl); (case F => k_asm); (case N => k_asm); (case hm => k_mem); (case hz => first | exact Nat.le_of_ble_eq_true rfl | size_fits)); intro g'; lcg_lit))
local macro_rules | `(tactic| walk_at "call builtin:list.append cons nil") => `(tactic| (k_here; k_dflt (refine' append_K ?k1 ?k2 ?k3 ?_ ?z; (case k1 => k_asm); (case k2 => k_asm); (case k3 => k_upd); (case z => size_fits); k_whole); intro h' F' N'; (try k_sweep)))
local macro_rules | `(tactic| walk_at "eval Name") => `(tactic| (k_here; (with_reducible show wpAny _ _ (eval (PySem.Expr.Name _ _) (envOfC _ _ _ _ _)) _ _ _); k_dflt (first | (refine' nameX_L ?F ?v ?_ ?a ?b; (case a => rfl); (case b => rfl); (case F => k_asm); (case v => rfl); k_whole) | (refine' nameX_C ?N ?c ?m ?d ?_ ?a ?b; (case a => rfl); (case b => rfl); (case N => k_asm); (case c => rfl); (case m => k_mem); (case d => with_reducible assumption); k_whole) | (refine' nameX_K ?F ?X ?T ?e ?_ ?a ?b; (case a => rfl); (case b => rfl); (case F => k_asm); (case X => k_asm); (case T => k_asm); (case e => k_is); k_whole))))
local macro_rules | `(tactic| walk_at "eval Name") => `(tactic| (k_here; (with_reducible show wpAny _ _ (eval (PySem.Expr.Name _ _) (envOfC _ _ _ _ _)) _ _ _); k_dflt (first | (refine' nameX_L ?F ?v ?_ ?a ?b; (case a => rfl); (case b => rfl); (case F => k_asm); (case v => first | rfl | assumption); k_whole) | (refine' nameX_C ?N ?c ?m ?d ?_ ?a ?b; (case a => rfl); (case b => rfl); (case N => k_asm); (case c => rfl); (case m => k_mem); (case d => with_reducible assumption); k_whole) | (refine' nameX_K ?F ?X ?T ?e ?_ ?a ?b; (case a => rfl); (case b => rfl); (case F => k_asm); (case X => k_asm); (case T => k_asm); (case e => k_is); k_whole))))
local macro_rules | `(tactic| walk_at "call builtin:len") => `(tactic| (k_here; (with_reducible show wpAny _ _ (call (Value.builtin "len") [Value.ref _]) _ _ _); k_dflt (refine' len_led ?k1 ?k2 ?k3 ?k4 ?_; (case k1 => k_asm); (case k2 => k_mem); (case k3 => first | (with_reducible assumption) | (refine' len_set ?z; (case z => with_reducible assumption))); (case k4 => decide); k_whole); (try dsimp only)))
local macro_rules | `(tactic| walk_at "compareOp Eq ref ref") => `(tactic| (k_here; (with_reducible show wpAny _ _ (compareOp CmpOp.Eq (Value.ref _) (Value.ref _)) _ _ _); k_dflt (refine' eq_rats ?N ?ha ?hb ?i1 ?i2 ?i3 ?i4 ?hu ?_; (case N => k_asm); (case ha => k_mem); (case hb => k_mem); (case i1 => first | exact rfl | exact num0 | exact num1); (case i2 => first | exact rfl | exact den0 | exact den1); (case i3 => first | exact rfl | exact num0 | exact num1); (case i4 => first | exact rfl | exact den0 | exact den1); (case hu => first | ktr_units | units_room | omega); k_whole)))
local macro_rules | `(tactic| walk_at "compareOp NotEq ref ref") => `(tactic| (k_here; (with_reducible show wpAny _ _ (compareOp CmpOp.NotEq (Value.ref _) (Value.ref _)) _ _ _); k_dflt (refine' ne_rats ?N ?ha ?hb ?i1 ?i2 ?i3 ?i4 ?hu ?_; (case N => k_asm); (case ha => k_mem); (case hb => k_mem); (case i1 => first | exact rfl | exact num0 | exact num1); (case i2 => first | exact rfl | exact den0 | exact den1); (case i3 => first | exact rfl | exact num0 | exact num1); (case i4 => first | exact rfl | exact den0 | exact den1); (case hu => first | ktr_units | units_room | omega); k_whole)))
local macro_rules | `(tactic| walk_at "setItem ref int ref") => `(tactic| (k_here; k_dflt (refine' set_any ?k1 ?k2 ?k3 ?k4 ?k5 ?k6 ?_; (case k1 => k_asm); (case k2 => k_asm); (case k6 => k_upd); (case k3 => with_reducible assumption); (case k4 => with_reducible assumption); (case k5 => (try simp only [List.length_set]); omega); k_whole); intro h' F' N'; (try k_sweep)))
local macro_rules | `(tactic| walk_at "exec Assign cons ListComp") => `(tactic| (k_here; k_dflt (first | (refine LCg.Assign_ListComp_U (F₀ := by k_asm) (by rfl) (by with_unfolding_all rfl) (by with_unfolding_all rfl) (by decide) (by rfl) (by decide) (by rfl) (by rfl) (by rfl) ?_) | ((with_reducible refine wpAny_Assign_Name ?_ ?_); rotate_left; (with_unfolding_all rfl)))))
local macro_rules | `(tactic| walk_at "call ref") => `(tactic| (k_here; (with_reducible show wpAny _ _ (call (Value.ref 155) _) _ _ _); k_dflt (refine' size_use ?k1 ?k2 ?k3 ?k4 ?k5 ?kK ?kd ?ku ?hx ?hp ?hs ?_; (case k1 => k_asm); (case k2 => k_asm); (case k3 => k_asm); (case k4 => k_asm); (case k5 => k_asm); (case kK => first | exact rfl | assumption); (case kd => ktr_room); (case ku => ktr_units); (case hx => k_mem); (case hp => with_reducible assumption); (case hs => omega); k_whole); intro D' u1' u2' c' h' tk' F' N' sz'; (try dsimp only); (try k_fold)))
local macro_rules | `(tactic| kcj_all) => `(tactic| ((repeat' (first | (with_reducible assumption) | (with_reducible exact mem_same) | exact List.forall_mem_nil _ | (with_reducible refine' List.forall_mem_cons.mpr ⟨?_, ?_⟩) | (with_reducible refine' mem_step ?_) | k_mem)); done))
local macro_rules | `(tactic| walk_at "CompSrc") => `(tactic| (k_here; k_dflt (refine LCg.CompSrc.range (by rfl) (by k_asm) (by k_asm) (by assumption) (by first | decide | rfl) (by first | rfl | decide) (by first | size_fits | exact Nat.le_of_ble_eq_true rfl) ?_; intro g'; lcg_lit)))
local macro_rules | `(tactic| walk_at "exec Assign cons ListComp") => `(tactic| (with_reducible refine wpAny_Assign_Subscript ?_ ?_; rotate_left; with_unfolding_all rfl))
local macro_rules | `(tactic| walk_at "execs cons For cons") => `(tactic| (refine Stop.out ?_))
local macro_rules | `(tactic| walk_at "execs cons If cons") => `(tactic| (refine Stop.out ?_))
local macro_rules | `(tactic| walk_at "exec For Name Call cons nil") => `(tactic| (k_here; k_dflt (refine For_C ?_)))
local macro_rules | `(tactic| walk_at "pyIter ref") => `(tactic| ((with_reducible show wpAny _ _ (pyIter (Value.ref _)) (LoopC _ _ _ _ _ _ _ _ _) _ _); (refine Stop.out ?_)))
local macro_rules | `(tactic| walk_at "UnrEnd") => `(tactic| (refine Stop.out ?_))
theorem taken34_does (w : World) (mean : ExcName → Option Value) (mg mb : Str → Option Value) (G : Great mg) (Sh : Nat → (Nat → Nat → Rat) → Rat → Prop) (M : Nat → Nat → Rat) (hsh0 : Sh 0 M 1)
    (hsw : ∀ a ld P f, a < 3 → a < ld → ld < 3 → Sh a P f → Sh a (swapP P a ld) (-f)) (hel : ∀ a P f, a < 3 → Sh a P f → P a a ≠ 0 → Sh (a + 1) (elimP P a 3) (f * P a a)) (news : List (Addr × Obj)) (lx : Addr) (cx : Nat) (rx0 : Addr) (cx0 : Nat) (rx1 : Addr) (cx1 : Nat) (rx2 : Addr) (cx2 : Nat) (ax00 : Addr) (sx00 ux00 : Tok) (kx00 : Nat) (ax01 : Addr) (sx01 ux01 : Tok) (kx01 : Nat) (ax02 : Addr) (sx02 ux02 : Tok) (kx02 : Nat) (ax03 : Addr) (sx03 ux03 : Tok) (kx03 : Nat) (ax10 : Addr) (sx10 ux10 : Tok) (kx10 : Nat) (ax11 : Addr) (sx11 ux11 : Tok) (kx11 : Nat) (ax12 : Addr) (sx12 ux12 : Tok) (kx12 : Nat) (ax13 : Addr) (sx13 ux13 : Tok) (kx13 : Nat) (ax20 : Addr) (sx20 ux20 : Tok) (kx20 : Nat) (ax21 : Addr) (sx21 ux21 : Tok) (kx21 : Nat) (ax22 : Addr) (sx22 ux22 : Tok) (kx22 : Nat) (ax23 : Addr) (sx23 ux23 : Tok) (kx23 : Nat)
    (hxl : (lx, listObj [.ref rx0, .ref rx1, .ref rx2] cx) ∈ news) (hxr0 : (rx0, listObj [.ref ax00, .ref ax01, .ref ax02, .ref ax03] cx0) ∈ news) (hxr1 : (rx1, listObj [.ref ax10, .ref ax11, .ref ax12, .ref ax13] cx1) ∈ news) (hxr2 : (rx2, listObj [.ref ax20, .ref ax21, .ref ax22, .ref ax23] cx2) ∈ news) (hx00 : (ax00, tup2 (M 0 0).num sx00 (M 0 0).den ux00 kx00) ∈ news) (zx00 : Sz 2 (M 0 0)) (hx01 : (ax01, tup2 (M 0 1).num sx01 (M 0 1).den ux01 kx01) ∈ news) (zx01 : Sz 2 (M 0 1)) (hx02 : (ax02, tup2 (M 0 2).num sx02 (M 0 2).den ux02 kx02) ∈ news) (zx02 : Sz 2 (M 0 2)) (hx03 : (ax03, tup2 (M 0 3).num sx03 (M 0 3).den ux03 kx03) ∈ news) (zx03 : Sz 2 (M 0 3)) (hx10 : (ax10, tup2 (M 1 0).num sx10 (M 1 0).den ux10 kx10) ∈ news) (zx10 : Sz 2 (M 1 0)) (hx11 : (ax11, tup2 (M 1 1).num sx11 (M 1 1).den ux11 kx11) ∈ news) (zx11 : Sz 2 (M 1 1)) (hx12 : (ax12, tup2 (M 1 2).num sx12 (M 1 2).den ux12 kx12) ∈ news) (zx12 : Sz 2 (M 1 2)) (hx13 : (ax13, tup2 (M 1 3).num sx13 (M 1 3).den ux13 kx13) ∈ news) (zx13 : Sz 2 (M 1 3)) (hx20 : (ax20, tup2 (M 2 0).num sx20 (M 2 0).den ux20 kx20) ∈ news) (zx20 : Sz 2 (M 2 0)) (hx21 : (ax21, tup2 (M 2 1).num sx21 (M 2 1).den ux21 kx21) ∈ news) (zx21 : Sz 2 (M 2 1)) (hx22 : (ax22, tup2 (M 2 2).num sx22 (M 2 2).den ux22 kx22) ∈ news) (zx22 : Sz 2 (M 2 2)) (hx23 : (ax23, tup2 (M 2 3).num sx23 (M 2 3).den ux23 kx23) ∈ news) (zx23 : Sz 2 (M 2 3)) :
    Does w mean mg mb 16 160 news [.ref lx] (TakenPost Sh 3 4 news) := by
  intro dp un gd cn cs a ccd cl outer A₀ base h₀ L m s Q E B F X N T hk hd hu hret
  refine wpAny_call ?_
  k_dflt (refine' code_defC (binds := [(PySem.Str.ofString "rows", .ref lx)]) ?k1 ?k2 ?k3 ?k4 ?k5 ?kA ?kF ?kK ?k6 ?k7 ?k8 ?k9 ?kB ?kD ?_ ?c2 ?c3 ?c4; (case kA => exact rfl); (case kF => exact rfl); (case kK => assumption); (case k1 => k_asm); (case k2 => k_asm); (case k3 => k_asm); (case k4 => k_asm); (case k5 => k_asm); (case k6 => k_is); (case k7 => k_is); (case k8 => ktr_room); (case k9 => exact BindsTo.of_eq rfl); (case kB => exact rfl); (case kD => decide +kernel); (case c2 => exact rfl); (case c3 => exact rfl); (case c4 => exact rfl); k_whole)
  intro g' L' h' tk' cells' FG' F' N' Y' B' X' T' l1
  have l2 := allLt_of l1
  have l3 : AllLt (L' + 1) _ := AllLt.mono l2 (Nat.le_succ _)
  have l4 : AllLt (L' + 1 + 1) _ := AllLt.mono l3 (Nat.le_succ _)
  k_cells Y'
  (try simp only [List.cons_append, List.nil_append] at N')
  (try dsimp only)
  (try k_fold)
  have l5 : AllLt (L' + 1 + 1 + 1) _ := AllLt.mono l4 (Nat.le_succ _)
  have l6 : AllLt (L' + 1 + 1 + 1 + 1) _ := AllLt.mono l5 (Nat.le_succ _)
  k_steps
  refine Stop.mk (wpAny_execs_cons ?_)
  k_steps
  refine Stop.mk ?_
  refine' iter_st (J := (fun I v mm nw => LCg.Off1 I nw ∧ ∃ P f, Sh v.toNat P f ∧ St 3 4 L' news (fun _ => True) P (fun _ => eN v.toNat) f (eN v.toNat) mm nw)) (T := fun mm nw => St 3 4 L' news (fun _ => True) M (fun _ => 2) 1 2 mm nw) rfl ?hr ?hab ?F ?N ?hE ?st ?mono ?h2 ?h3x6
  (case hr => assumption)
  (case hab => decide)
  (case F => k_asm)
  (case N => k_asm)
  (case hE => first | passes_own | with_unfolding_all passes_own)
  case st =>
    (refine' St.intro ?dM ?dP ?dA ?dR ?D1 ?D2 ?D3 ?D4 ?D5 ?hf ?hF ?i1 ?i2 ?hb ?hz ?hl ?cA ?hR; (case D1 => k_upd); (case D2 => k_upd); (case D3 => k_upd); (case D4 => k_upd); (case dR => with_reducible assumption); (case D5 => k_upd); (case dM => with_reducible assumption); (case dP => with_reducible assumption); (case dA => with_reducible assumption); (case hf => first | rfl | assumption); (case hF => k_mem); (case i1 => first | exact rfl | exact num1); (case i2 => first | exact rfl | exact den1); (case hb => kcj_all); (case hz => first | (with_reducible assumption) | exact Sz.one); (case hl => first | exact Nat.le_refl _ | omega))
    case cA => exact trivial
    case hR => exact RowsAt.of3 (RowAt.of4 (by k_mem) (by k_mem) (by with_reducible assumption) (Nat.le_refl _) rfl (by k_mem) (by with_reducible assumption) (Nat.le_refl _) rfl (by k_mem) (by with_reducible assumption) (Nat.le_refl _) rfl (by k_mem) (by with_reducible assumption) (Nat.le_refl _) rfl) (RowAt.of4 (by k_mem) (by k_mem) (by with_reducible assumption) (Nat.le_refl _) rfl (by k_mem) (by with_reducible assumption) (Nat.le_refl _) rfl (by k_mem) (by with_reducible assumption) (Nat.le_refl _) rfl (by k_mem) (by with_reducible assumption) (Nat.le_refl _) rfl) (RowAt.of4 (by k_mem) (by k_mem) (by with_reducible assumption) (Nat.le_refl _) rfl (by k_mem) (by with_reducible assumption) (Nat.le_refl _) rfl (by k_mem) (by with_reducible assumption) (Nat.le_refl _) rfl (by k_mem) (by with_reducible assumption) (Nat.le_refl _) rfl)
  case mono => exact fun I nw ho hh => ⟨ho, M, 1, hsh0, hh⟩
  case h2 =>
    clear l2 l3 l4 l5 l6
    rintro I1 v0 m0 nw0 g1 g2 ⟨oI, P, f, sh, R, vs, cR, rest, Fd, sf, uf, kf, oM, oP, oA, oR, vM, vP, vA, hf, dM, dP, dA, dR, cA, rfl, ⟨n1, n2, n3, n4, n5, n6, n7, n8, b1, b2, b3, b4, b5⟩, hb, hF, zf, hrows⟩ it1 t1 h1 tk1 F1 N1
    obtain ⟨w1, w2, w3, w4, w5, w6, w7, w8, w9, w10, w11⟩ := offI_of oI
    clear oI
    have hvl := hrows.1
    have gvn : v0.toNat < 3 := by omega
    have gv63 : v0 < 2 ^ 63 := by omega
    have ge : eN v0.toNat ≤ 79 := eN_le (by omega)
    k_steps
    refine Stop.mk (execs_cut (MidS { s with heap := h1, toks := tk1 } g' L' I1 it1 (fun mm nw => LCg.Off1 I1 nw ∧ (∃ ld t, mm (PySem.Str.ofString "lead") = some (.int ld t) ∧ v0 ≤ ld ∧ ld < 3 ∧ (∀ i : Nat, v0.toNat ≤ i → i < 3 → P ld.toNat v0.toNat = 0 → P i v0.toNat = 0)) ∧ St 3 4 L' news (fun v => ∃ t, v = some (.int v0 t)) P (fun _ => eN v0.toNat) f (eN v0.toNat) mm nw)) ?_ ?_)
    · k_steps
      refine Stop.mk ?_
      refine' iter_st (J := (fun I2 k mm nw => LCg.Off1 I2 nw ∧ ∃ nw0, nw = (I1, it1) :: nw0 ∧ LCg.Off1 I1 nw0 ∧ (∃ ld t, mm (PySem.Str.ofString "lead") = some (.int ld t) ∧ v0 ≤ ld ∧ ld < 3 ∧ (∀ i : Nat, v0.toNat ≤ i → i < k.toNat → P ld.toNat v0.toNat = 0 → P i v0.toNat = 0)) ∧ St 3 4 L' news (fun v => ∃ t, v = some (.int v0 t)) P (fun _ => eN v0.toNat) f (eN v0.toNat) mm nw0)) (T := fun mm nw => ∃ nw0, nw = (I1, it1) :: nw0 ∧ LCg.Off1 I1 nw0 ∧ St 3 4 L' news (fun v => ∃ t, v = some (.int v0 t)) P (fun _ => eN v0.toNat) f (eN v0.toNat) mm nw0) rfl ?hr ?hab ?F ?N ?hE ?st ?mono ?h2 ?h3x5
      (case hr => assumption)
      (case hab => omega)
      (case F => k_asm)
      (case N => k_asm)
      (case hE => first | passes_own | with_unfolding_all passes_own)
      case st =>
        refine' with_iter ?d1 ?st2
        (case d1 => k_upd)
        case st2 =>
          (refine' St.intro ?dM ?dP ?dA ?dR ?D1 ?D2 ?D3 ?D4 ?D5 ?hf ?hF ?i1 ?i2 ?hb ?hz ?hl ?cA ?hR; (case D1 => k_upd); (case D2 => k_upd); (case D3 => k_upd); (case D4 => k_upd); (case dR => with_reducible assumption); (case D5 => k_upd); (case dM => with_reducible assumption); (case dP => with_reducible assumption); (case dA => with_reducible assumption); (case hf => first | rfl | assumption); (case hF => k_mem); (case i1 => first | exact rfl | exact num1); (case i2 => first | exact rfl | exact den1); (case hb => kcj_all); (case hz => first | (with_reducible assumption) | exact Sz.one); (case hl => first | exact Nat.le_refl _ | omega))
          case cA => exact ⟨_, rfl⟩
          case hR => exact hrows.sub (by kcj_all) (fun _ _ _ _ => rfl) (fun _ _ => Nat.le_refl _)
      case mono => exact fun I nw ho ⟨nw0, e, ho1, hh⟩ => ⟨ho, nw0, e, ho1, ⟨v0, _, rfl, Int.le_refl _, by omega, fun i h1 h2 h3 => (show i = v0.toNat by omega) ▸ h3⟩, hh⟩
      case h2 =>
        rintro I2 k0 m1 nw1 g3 g4 ⟨oI2, nw2, rfl, oI1, ⟨ld, tl, hlead, gl1, gl2, gl3⟩, R, vs, cR, rest, Fd, sf, uf, kf, oM, oP, oA, oR, vM, vP, vA, hf, dM, dP, dA, dR, ⟨tA, rfl⟩, rfl, ⟨n1, n2, n3, n4, n5, n6, n7, n8, b1, b2, b3, b4, b5⟩, hb, hF, zf, hrows⟩ it2 t2 h2 tk2 F2 N2
        obtain ⟨oI3, oI4⟩ := oI2
        have oI5 : @Ne Nat I2 I1 := Ne.symm oI3
        replace oI3 : @Ne Nat I1 I2 := oI3
        obtain ⟨w1, w2, w3, w4, w5, w6, w7, w8, w9, w10, w11⟩ := offI_of oI1
        obtain ⟨v1, v2, v3, v4, v5, v6, v7, v8, v9, v10, v11⟩ := offI_of oI4
        clear oI1 oI4
        have hvl := hrows.1
        have gk63 : k0 < 2 ^ 63 := by omega
        have gk0 : 0 ≤ k0 := by omega
        have gl63 : ld < 2 ^ 63 := by omega
        have gl0 : 0 ≤ ld := by omega
        obtain ⟨xr, xv, xrow⟩ := hrows.2 (k0).toNat (by omega)
        replace xrow : RowAt 4 rest xr (P (k0).toNat) (eN v0.toNat) := xrow
        obtain ⟨xc, xa0, xs0, xu0, xk0, xa1, xs1, xu1, xk1, xa2, xs2, xu2, xk2, xa3, xs3, xu3, xk3, xx, xsx, xux, xkx, xh, xm0, xm1, xm2, xm3, xz0, xz1, xz2, xz3, xcol, xmx, xzx⟩ := RowAt.openc4 (v := v0.toNat) xrow (by omega)
        obtain ⟨yr, yv, yrow⟩ := hrows.2 (ld).toNat (by omega)
        replace yrow : RowAt 4 rest yr (P (ld).toNat) (eN v0.toNat) := yrow
        obtain ⟨yc, ya0, ys0, yu0, yk0, ya1, ys1, yu1, yk1, ya2, ys2, yu2, yk2, ya3, ys3, yu3, yk3, yx, ysx, yux, ykx, yh, ym0, ym1, ym2, ym3, yz0, yz1, yz2, yz3, ycol, ymx, yzx⟩ := RowAt.openc4 (v := v0.toNat) yrow (by omega)
        k_steps
        · refine Stop.mk ?_
          refine' unrEnd_st (T := fun mm nw => ∃ nw0, nw = (I1, it1) :: nw0 ∧ LCg.Off1 I1 nw0 ∧ St 3 4 L' news (fun v => ∃ t, v = some (.int v0 t)) P (fun _ => eN v0.toNat) f (eN v0.toNat) mm nw0) ?F ?N ?d0 ?st ?mono ?off
          (case F => k_asm)
          (case N => k_asm)
          (case d0 => k_upd)
          case st =>
            refine' with_iter ?d1 ?st2
            (case d1 => k_upd)
            case st2 =>
              (refine' St.intro ?dM ?dP ?dA ?dR ?D1 ?D2 ?D3 ?D4 ?D5 ?hf ?hF ?i1 ?i2 ?hb ?hz ?hl ?cA ?hR; (case D1 => k_upd); (case D2 => k_upd); (case D3 => k_upd); (case D4 => k_upd); (case dR => with_reducible assumption); (case D5 => k_upd); (case dM => with_reducible assumption); (case dP => with_reducible assumption); (case dA => with_reducible assumption); (case hf => first | rfl | assumption); (case hF => k_mem); (case i1 => first | exact rfl | exact num1); (case i2 => first | exact rfl | exact den1); (case hb => kcj_all); (case hz => first | (with_reducible assumption) | exact Sz.one); (case hl => first | exact Nat.le_refl _ | omega))
              case cA => exact ⟨_, rfl⟩
              case hR => exact hrows.sub (by kcj_all) (fun _ _ _ _ => rfl) (fun _ _ => Nat.le_refl _)
          case mono => exact fun nw ho ⟨nw0, e, ho1, hh⟩ => ⟨ho, nw0, e, ho1, ⟨k0, _, rfl, by omega, by omega, fun i h1 h2 h3 => absurd h3 (lemB (by assumption))⟩, hh⟩
          case off => exact fun _ _ hh => hh.1
        · refine Stop.mk ?_
          refine' unrEnd_st (T := fun mm nw => ∃ nw0, nw = (I1, it1) :: nw0 ∧ LCg.Off1 I1 nw0 ∧ St 3 4 L' news (fun v => ∃ t, v = some (.int v0 t)) P (fun _ => eN v0.toNat) f (eN v0.toNat) mm nw0) ?F ?N ?d0 ?st ?mono ?off
          (case F => k_asm)
          (case N => k_asm)
          (case d0 => k_upd)
          case st =>
            refine' with_iter ?d1 ?st2
            (case d1 => k_upd)
            case st2 =>
              (refine' St.intro ?dM ?dP ?dA ?dR ?D1 ?D2 ?D3 ?D4 ?D5 ?hf ?hF ?i1 ?i2 ?hb ?hz ?hl ?cA ?hR; (case D1 => k_upd); (case D2 => k_upd); (case D3 => k_upd); (case D4 => k_upd); (case dR => with_reducible assumption); (case D5 => k_upd); (case dM => with_reducible assumption); (case dP => with_reducible assumption); (case dA => with_reducible assumption); (case hf => first | rfl | assumption); (case hF => k_mem); (case i1 => first | exact rfl | exact num1); (case i2 => first | exact rfl | exact den1); (case hb => kcj_all); (case hz => first | (with_reducible assumption) | exact Sz.one); (case hl => first | exact Nat.le_refl _ | omega))
              case cA => exact ⟨_, rfl⟩
              case hR => exact hrows.sub (by kcj_all) (fun _ _ _ _ => rfl) (fun _ _ => Nat.le_refl _)
          case mono => exact fun nw ho ⟨nw0, e, ho1, hh⟩ => ⟨ho, nw0, e, ho1, ⟨ld, _, hlead, gl1, gl2, fun i h1 h2 h3 => (Nat.lt_or_ge i k0.toNat).elim (fun hik => gl3 i h1 hik h3) (fun hik => (show k0.toNat = i by omega) ▸ lemA (by assumption) h3)⟩, hh⟩
          case off => exact fun _ _ hh => hh.1
      case h3x5 =>
        rintro I2 m1 nw1 ⟨oI2, nw2, rfl, oI1, ⟨ld, tl, hlead, gl1, gl2, gl3⟩, R, vs, cR, rest, Fd, sf, uf, kf, oM, oP, oA, oR, vM, vP, vA, hf, dM, dP, dA, dR, ⟨tA, rfl⟩, rfl, ⟨n1, n2, n3, n4, n5, n6, n7, n8, b1, b2, b3, b4, b5⟩, hb, hF, zf, hrows⟩
        obtain ⟨oI3, oI4⟩ := oI2
        have oI5 : @Ne Nat I2 I1 := Ne.symm oI3
        replace oI3 : @Ne Nat I1 I2 := oI3
        obtain ⟨w1, w2, w3, w4, w5, w6, w7, w8, w9, w10, w11⟩ := offI_of oI1
        obtain ⟨v1, v2, v3, v4, v5, v6, v7, v8, v9, v10, v11⟩ := offI_of oI4
        clear oI1 oI4
        have hvl := hrows.1
        refine TurnsC.zero (fun h2 tk2 F2 N2 => ?_)
        k_steps
        refine Stop.mk ?_
        refine' midS_st (T := fun mm nw => St 3 4 L' news (fun v => ∃ t, v = some (.int v0 t)) P (fun _ => eN v0.toNat) f (eN v0.toNat) mm nw) ?F ?N ?d0 ?st ?mono
        (case F => k_asm)
        (case N => k_asm)
        (case d0 => k_upd)
        case st =>
          (refine' St.intro ?dM ?dP ?dA ?dR ?D1 ?D2 ?D3 ?D4 ?D5 ?hf ?hF ?i1 ?i2 ?hb ?hz ?hl ?cA ?hR; (case D1 => k_upd); (case D2 => k_upd); (case D3 => k_upd); (case D4 => k_upd); (case dR => with_reducible assumption); (case D5 => k_upd); (case dM => with_reducible assumption); (case dP => with_reducible assumption); (case dA => with_reducible assumption); (case hf => first | rfl | assumption); (case hF => k_mem); (case i1 => first | exact rfl | exact num1); (case i2 => first | exact rfl | exact den1); (case hb => kcj_all); (case hz => first | (with_reducible assumption) | exact Sz.one); (case hl => first | exact Nat.le_refl _ | omega))
          case cA => exact ⟨_, rfl⟩
          case hR => exact hrows.sub (by kcj_all) (fun _ _ _ _ => rfl) (fun _ _ => Nat.le_refl _)
        case mono => exact fun nw ho hh => ⟨ho, ⟨ld, _, hlead, gl1, gl2, gl3⟩, hh⟩
    · clear hrows n1 n2 n3 n4 n5 n6 n7 n8 b1 b2 b3 b4 b5 w1 w2 w3 w4 w5 w6 w7 w8 w9 w10 w11 hb hF dM dP dA dR hf hvl F1 N1
      rintro s2 ⟨h2, tk2, m2, nw2, rfl, F2, N2, oI1, ⟨ld, tl, hlead, gl1, gl2, gl3⟩, R, vs, cR, rest, Fd, sf, uf, kf, oM, oP, oA, oR, vM, vP, vA, hf, dM, dP, dA, dR, ⟨tA, rfl⟩, rfl, ⟨n1, n2, n3, n4, n5, n6, n7, n8, b1, b2, b3, b4, b5⟩, hb, hF, zf, hrows⟩
      obtain ⟨w1, w2, w3, w4, w5, w6, w7, w8, w9, w10, w11⟩ := offI_of oI1
      clear oI1
      have hvl := hrows.1
      have gl63 : ld < 2 ^ 63 := by omega
      have gl0 : 0 ≤ ld := by omega
      refine execs_cut2 (MidS { s with heap := h1, toks := tk1 } g' L' I1 it1 (fun mm nw => LCg.Off1 I1 nw ∧ ∃ P f, Sh v0.toNat P f ∧ P v0.toNat v0.toNat ≠ 0 ∧ St 3 4 L' news (fun v => ∃ t, v = some (.int v0 t)) P (fun _ => eN v0.toNat) f (eN v0.toNat) mm nw)) ?_ ?_
      · obtain ⟨xr, xv, xrow⟩ := hrows.2 (v0).toNat (by omega)
        obtain ⟨yr, yv, yrow⟩ := hrows.2 (ld).toNat (by omega)
        replace yrow : RowAt 4 rest yr (P (ld).toNat) (eN v0.toNat) := yrow
        obtain ⟨yc, ya0, ys0, yu0, yk0, ya1, ys1, yu1, yk1, ya2, ys2, yu2, yk2, ya3, ys3, yu3, yk3, yx, ysx, yux, ykx, yh, ym0, ym1, ym2, ym3, yz0, yz1, yz2, yz3, ycol, ymx, yzx⟩ := RowAt.openc4 (v := v0.toNat) yrow (by omega)
        k_steps
        · refine' taken_ret (q := 0) (P := P) hret ?F ?N ?hs ?hT ?hR ?hF ?i1 ?i2 ?hz ?he ?hrows ?hE ?hP
          (case F => k_asm)
          (case N => k_asm)
          (case hs => kcj_all)
          (case hT => k_mem)
          (case hR => k_mem)
          (case hF => k_mem)
          (case i1 => exact num0)
          (case i2 => exact den0)
          (case hz => exact Sz.zero)
          case hrows => exact hrows.sub (by kcj_all) (fun _ _ _ _ => rfl) (fun _ _ => Nat.le_refl _)
          (case he => omega)
          (case hE => exact fun _ _ => by omega)
          case hP => exact (.inr ⟨rfl, v0.toNat, P, f, gvn, sh, fun i h1 h2 => gl3 i h1 h2 (by assumption)⟩)
        · refine Stop.mk ?_
          refine' midS_st (T := fun mm nw => St 3 4 L' news (fun v => ∃ t, v = some (.int v0 t)) (swapP P v0.toNat ld.toNat) (fun _ => eN v0.toNat) (-f) (eN v0.toNat) mm nw) ?F ?N ?d0 ?st ?mono
          (case F => k_asm)
          (case N => k_asm)
          (case d0 => k_upd)
          case st =>
            (refine' St.intro ?dM ?dP ?dA ?dR ?D1 ?D2 ?D3 ?D4 ?D5 ?hf ?hF ?i1 ?i2 ?hb ?hz ?hl ?cA ?hR; (case D1 => k_upd); (case D2 => k_upd); (case D3 => k_upd); (case D4 => k_upd); (case dR => with_reducible assumption); (case D5 => k_upd); (case dM => with_reducible assumption); (case dP => with_reducible assumption); (case dA => with_reducible assumption); (case hf => first | rfl | assumption); (case hF => k_mem); (case i1 => first | exact rfl | exact num1); (case i2 => first | exact rfl | exact den1); (case hb => kcj_all); (case hz => first | (with_reducible assumption) | exact Sz.one); (case hl => first | exact Nat.le_refl _ | omega))
            case cA => exact ⟨_, rfl⟩
            case hR => exact RowsAt.swap hrows (by kcj_all) gvn (by omega) (by omega) xv yv
          case mono => exact fun nw ho hh => ⟨ho, _, _, hsw _ _ _ _ gvn (by omega) (by omega) sh, (by unfold swapP; rw [if_pos rfl]; assumption), hh⟩
        · obtain rfl : ld = v0 := by assumption
          refine Stop.mk ?_
          refine' midS_st (T := fun mm nw => St 3 4 L' news (fun v => ∃ t, v = some (.int ld t)) P (fun _ => eN ld.toNat) f (eN ld.toNat) mm nw) ?F ?N ?d0 ?st ?mono
          (case F => k_asm)
          (case N => k_asm)
          (case d0 => k_upd)
          case st =>
            (refine' St.intro ?dM ?dP ?dA ?dR ?D1 ?D2 ?D3 ?D4 ?D5 ?hf ?hF ?i1 ?i2 ?hb ?hz ?hl ?cA ?hR; (case D1 => k_upd); (case D2 => k_upd); (case D3 => k_upd); (case D4 => k_upd); (case dR => with_reducible assumption); (case D5 => k_upd); (case dM => with_reducible assumption); (case dP => with_reducible assumption); (case dA => with_reducible assumption); (case hf => first | rfl | assumption); (case hF => k_mem); (case i1 => first | exact rfl | exact num1); (case i2 => first | exact rfl | exact den1); (case hb => kcj_all); (case hz => first | (with_reducible assumption) | exact Sz.one); (case hl => first | exact Nat.le_refl _ | omega))
            case cA => exact ⟨_, rfl⟩
            case hR => exact hrows.sub (by kcj_all) (fun _ _ _ _ => rfl) (fun _ _ => Nat.le_refl _)
          case mono => exact fun nw ho hh => ⟨ho, _, _, sh, (by assumption), hh⟩
      · clear hrows n1 n2 n3 n4 n5 n6 n7 n8 b1 b2 b3 b4 b5 w1 w2 w3 w4 w5 w6 w7 w8 w9 w10 w11 hb hF dM dP dA dR hf hvl F2 N2 hlead gl1 gl2 gl3 gl63 gl0 sh
        rintro s3 ⟨h3, tk3, m3, nw3, rfl, F3, N3, oI1, P, f, sh, hnz, R, vs, cR, rest, Fd, sf, uf, kf, oM, oP, oA, oR, vM, vP, vA, hf, dM, dP, dA, dR, ⟨tA, rfl⟩, rfl, ⟨n1, n2, n3, n4, n5, n6, n7, n8, b1, b2, b3, b4, b5⟩, hb, hF, zf, hrows⟩
        obtain ⟨w1, w2, w3, w4, w5, w6, w7, w8, w9, w10, w11⟩ := offI_of oI1
        clear oI1
        have hvl := hrows.1
        obtain ⟨xr, xv, xrow⟩ := hrows.2 (v0).toNat (by omega)
        replace xrow : RowAt 4 rest xr (P (v0).toNat) (eN v0.toNat) := xrow
        obtain ⟨xc, xa0, xs0, xu0, xk0, xa1, xs1, xu1, xk1, xa2, xs2, xu2, xk2, xa3, xs3, xu3, xk3, xx, xsx, xux, xkx, xh, xm0, xm1, xm2, xm3, xz0, xz1, xz2, xz3, xcol, xmx, xzx⟩ := RowAt.openc4 (v := v0.toNat) xrow (by omega)
        k_steps
        refine Stop.mk ?_
        refine' iter_st (J := (fun I2 k mm nw => LCg.Off1 I2 nw ∧ ∃ nw0, nw = (I1, it1) :: nw0 ∧ LCg.Off1 I1 nw0 ∧ St 3 4 L' news (fun v => ∃ t, v = some (.int v0 t)) (elimP P v0.toNat k.toNat) (elimE (eN v0.toNat) v0.toNat k.toNat) (f * P v0.toNat v0.toNat) (6 * (eN v0.toNat) + 1) mm nw0)) (T := fun mm nw => ∃ nw0, nw = (I1, it1) :: nw0 ∧ LCg.Off1 I1 nw0 ∧ St 3 4 L' news (fun v => ∃ t, v = some (.int v0 t)) (elimP P v0.toNat 0) (elimE (eN v0.toNat) v0.toNat 0) (f * P v0.toNat v0.toNat) (6 * (eN v0.toNat) + 1) mm nw0) rfl ?hr ?hab ?F ?N ?hE ?st ?mono ?h2 ?h3x4
        (case hr => assumption)
        (case hab => decide)
        (case F => k_asm)
        (case N => k_asm)
        (case hE => first | passes_own | with_unfolding_all passes_own)
        case st =>
          refine' with_iter ?d1 ?st2
          (case d1 => k_upd)
          case st2 =>
            (refine' St.intro ?dM ?dP ?dA ?dR ?D1 ?D2 ?D3 ?D4 ?D5 ?hf ?hF ?i1 ?i2 ?hb ?hz ?hl ?cA ?hR; (case D1 => k_upd); (case D2 => k_upd); (case D3 => k_upd); (case D4 => k_upd); (case dR => with_reducible assumption); (case D5 => k_upd); (case dM => with_reducible assumption); (case dP => with_reducible assumption); (case dA => with_reducible assumption); (case hf => first | rfl | assumption); (case hF => k_mem); (case i1 => first | exact rfl | exact num1); (case i2 => first | exact rfl | exact den1); (case hb => kcj_all); (case hz => first | (with_reducible assumption) | exact Sz.one); (case hl => first | exact Nat.le_refl _ | omega))
            case cA => exact ⟨_, rfl⟩
            case hR => exact (RowsAt.set (q := fun j => P v0.toNat j / P v0.toNat v0.toNat) (e := 2 * (eN v0.toNat)) hrows (by kcj_all) gvn (RowAt.of4 (by k_mem) (by k_mem) (by with_reducible assumption) (by omega) rfl (by k_mem) (by with_reducible assumption) (by omega) rfl (by k_mem) (by with_reducible assumption) (by omega) rfl (by k_mem) (by with_reducible assumption) (by omega) rfl)).sub (fun _ h => h) (fun i _ j _ => elim_start i j) (fun i _ => elimE_start i)
        case mono => exact fun I nw ho hh => ⟨ho, hh⟩
        case h2 =>
          rintro I2 k0 m1 nw1 g3 g4 ⟨oI2, nw2, rfl, oI1, R, vs, cR, rest, Fd, sf, uf, kf, oM, oP, oA, oR, vM, vP, vA, hf, dM, dP, dA, dR, ⟨tA, rfl⟩, rfl, ⟨n1, n2, n3, n4, n5, n6, n7, n8, b1, b2, b3, b4, b5⟩, hb, hF, zf, hrows⟩ it2 t2 h2 tk2 F2 N2
          obtain ⟨oI3, oI4⟩ := oI2
          have oI5 : @Ne Nat I2 I1 := Ne.symm oI3
          replace oI3 : @Ne Nat I1 I2 := oI3
          obtain ⟨w1, w2, w3, w4, w5, w6, w7, w8, w9, w10, w11⟩ := offI_of oI1
          obtain ⟨v1, v2, v3, v4, v5, v6, v7, v8, v9, v10, v11⟩ := offI_of oI4
          clear oI1 oI4
          have hvl := hrows.1
          have gk63 : k0 < 2 ^ 63 := by omega
          have ek1 : (k0 + 1).toNat = k0.toNat + 1 := by omega
          have h2e : 2 * (eN v0.toNat) ≤ 158 := by omega
          obtain ⟨xr, xv, xrow⟩ := hrows.2 (v0).toNat (by omega)
          replace xrow : RowAt 4 rest xr (elimP P v0.toNat k0.toNat v0.toNat) (2 * (eN v0.toNat)) := by have := xrow; rwa [elimE_self] at this
          obtain ⟨xc, xa0, xs0, xu0, xk0, xa1, xs1, xu1, xk1, xa2, xs2, xu2, xk2, xa3, xs3, xu3, xk3, xx, xsx, xux, xkx, xh, xm0, xm1, xm2, xm3, xz0, xz1, xz2, xz3, xcol, xmx, xzx⟩ := RowAt.openc4 (v := v0.toNat) xrow (by omega)
          obtain ⟨yr, yv, yrow⟩ := hrows.2 (k0).toNat (by omega)
          replace yrow : RowAt 4 rest yr (elimP P v0.toNat k0.toNat k0.toNat) (2 * (eN v0.toNat)) := yrow.sub (fun _ h => h) (fun _ _ => rfl) elimE_own
          obtain ⟨yc, ya0, ys0, yu0, yk0, ya1, ys1, yu1, yk1, ya2, ys2, yu2, yk2, ya3, ys3, yu3, yk3, yx, ysx, yux, ykx, yh, ym0, ym1, ym2, ym3, yz0, yz1, yz2, yz3, ycol, ymx, yzx⟩ := RowAt.openc4 (v := v0.toNat) yrow (by omega)
          k_steps
          · refine Stop.mk ?_
            refine' unrEnd_st (T := fun mm nw => ∃ nw0, nw = (I1, it1) :: nw0 ∧ LCg.Off1 I1 nw0 ∧ St 3 4 L' news (fun v => ∃ t, v = some (.int v0 t)) (elimP P v0.toNat (k0 + 1).toNat) (elimE (eN v0.toNat) v0.toNat (k0 + 1).toNat) (f * P v0.toNat v0.toNat) (6 * (eN v0.toNat) + 1) mm nw0) ?F ?N ?d0 ?st ?mono ?off
            (case F => k_asm)
            (case N => k_asm)
            (case d0 => k_upd)
            case st =>
              refine' with_iter ?d1 ?st2
              (case d1 => k_upd)
              case st2 =>
                (refine' St.intro ?dM ?dP ?dA ?dR ?D1 ?D2 ?D3 ?D4 ?D5 ?hf ?hF ?i1 ?i2 ?hb ?hz ?hl ?cA ?hR; (case D1 => k_upd); (case D2 => k_upd); (case D3 => k_upd); (case D4 => k_upd); (case dR => with_reducible assumption); (case D5 => k_upd); (case dM => with_reducible assumption); (case dP => with_reducible assumption); (case dA => with_reducible assumption); (case hf => first | rfl | assumption); (case hF => k_mem); (case i1 => first | exact rfl | exact num1); (case i2 => first | exact rfl | exact den1); (case hb => kcj_all); (case hz => first | (with_reducible assumption) | exact Sz.one); (case hl => first | exact Nat.le_refl _ | omega))
                case cA => exact ⟨_, rfl⟩
                case hR => exact (RowsAt.set (k := k0.toNat) (q := fun j => elimP P v0.toNat k0.toNat k0.toNat j - elimP P v0.toNat k0.toNat k0.toNat v0.toNat * elimP P v0.toNat k0.toNat v0.toNat j) (e := 6 * (eN v0.toNat) + 1) hrows (by kcj_all) (by omega) (RowAt.of4 (by k_mem) (by k_mem) (by with_reducible assumption) (by omega) rfl (by k_mem) (by with_reducible assumption) (by omega) rfl (by k_mem) (by with_reducible assumption) (by omega) rfl (by k_mem) (by with_reducible assumption) (by omega) rfl)).sub (fun _ h => h) (fun i _ j _ => by rw [ek1]; exact elim_turn (by omega) i j) (fun i _ => by rw [ek1]; exact elimE_turn (by omega) i)
            case mono => exact fun nw ho ⟨nw0, e, ho1, hh⟩ => ⟨ho, nw0, e, ho1, hh⟩
            case off => exact fun _ _ hh => hh.1
          · have hkv : k0 = v0 := by assumption
            refine Stop.mk ?_
            refine' unrEnd_st (T := fun mm nw => ∃ nw0, nw = (I1, it1) :: nw0 ∧ LCg.Off1 I1 nw0 ∧ St 3 4 L' news (fun v => ∃ t, v = some (.int v0 t)) (elimP P v0.toNat (k0 + 1).toNat) (elimE (eN v0.toNat) v0.toNat (k0 + 1).toNat) (f * P v0.toNat v0.toNat) (6 * (eN v0.toNat) + 1) mm nw0) ?F ?N ?d0 ?st ?mono ?off
            (case F => k_asm)
            (case N => k_asm)
            (case d0 => k_upd)
            case st =>
              refine' with_iter ?d1 ?st2
              (case d1 => k_upd)
              case st2 =>
                (refine' St.intro ?dM ?dP ?dA ?dR ?D1 ?D2 ?D3 ?D4 ?D5 ?hf ?hF ?i1 ?i2 ?hb ?hz ?hl ?cA ?hR; (case D1 => k_upd); (case D2 => k_upd); (case D3 => k_upd); (case D4 => k_upd); (case dR => with_reducible assumption); (case D5 => k_upd); (case dM => with_reducible assumption); (case dP => with_reducible assumption); (case dA => with_reducible assumption); (case hf => first | rfl | assumption); (case hF => k_mem); (case i1 => first | exact rfl | exact num1); (case i2 => first | exact rfl | exact den1); (case hb => kcj_all); (case hz => first | (with_reducible assumption) | exact Sz.one); (case hl => first | exact Nat.le_refl _ | omega))
                case cA => exact ⟨_, rfl⟩
                case hR => exact hrows.sub (by kcj_all) (fun i _ j _ => by rw [ek1, hkv]; exact elim_at i j) (fun i _ => by rw [ek1, hkv]; exact elimE_at i)
            case mono => exact fun nw ho ⟨nw0, e, ho1, hh⟩ => ⟨ho, nw0, e, ho1, hh⟩
            case off => exact fun _ _ hh => hh.1
        case h3x4 =>
          rintro I2 m1 nw1 ⟨oI2, nw2, rfl, oI1, R, vs, cR, rest, Fd, sf, uf, kf, oM, oP, oA, oR, vM, vP, vA, hf, dM, dP, dA, dR, cA, rfl, ⟨n1, n2, n3, n4, n5, n6, n7, n8, b1, b2, b3, b4, b5⟩, hb, hF, zf, hrows⟩
          obtain ⟨oI3, oI4⟩ := oI2
          have oI5 : @Ne Nat I2 I1 := Ne.symm oI3
          replace oI3 : @Ne Nat I1 I2 := oI3
          obtain ⟨w1, w2, w3, w4, w5, w6, w7, w8, w9, w10, w11⟩ := offI_of oI1
          obtain ⟨v1, v2, v3, v4, v5, v6, v7, v8, v9, v10, v11⟩ := offI_of oI4
          clear oI1 oI4
          have hvl := hrows.1
          have ev1 : (v0 + 1).toNat = v0.toNat + 1 := by omega
          have eE : eN (v0 + 1).toNat = 6 * (eN v0.toNat) + 1 := by rw [ev1]; rfl
          refine TurnsC.zero (fun h2 tk2 F2 N2 => ?_)
          k_steps
          refine Stop.mk ?_
          refine' unrEnd_st (T := fun mm nw => St 3 4 L' news (fun _ => True) (elimP P v0.toNat 3) (fun _ => eN (v0 + 1).toNat) (f * P v0.toNat v0.toNat) (eN (v0 + 1).toNat) mm nw) ?F ?N ?d0 ?st ?mono ?off
          (case F => k_asm)
          (case N => k_asm)
          (case d0 => k_upd)
          case st =>
            (refine' St.intro ?dM ?dP ?dA ?dR ?D1 ?D2 ?D3 ?D4 ?D5 ?hf ?hF ?i1 ?i2 ?hb ?hz ?hl ?cA ?hR; (case D1 => k_upd); (case D2 => k_upd); (case D3 => k_upd); (case D4 => k_upd); (case dR => with_reducible assumption); (case D5 => k_upd); (case dM => with_reducible assumption); (case dP => with_reducible assumption); (case dA => with_reducible assumption); (case hf => first | rfl | assumption); (case hF => k_mem); (case i1 => first | exact rfl | exact num1); (case i2 => first | exact rfl | exact den1); (case hb => kcj_all); (case hz => first | (with_reducible assumption) | exact Sz.one); (case hl => first | exact Nat.le_refl _ | omega))
            case cA => exact trivial
            case hR => exact hrows.sub (by kcj_all) (fun _ _ _ _ => rfl) (fun _ _ => by rw [eE]; exact elimE_le)
          case mono => exact fun nw ho hh => ⟨ho, _, _, (by rw [ev1]; exact hel _ _ _ gvn sh hnz), hh⟩
          case off => exact fun _ _ hh => hh.1
  case h3x6 =>
    rintro I m1 nw1 ⟨oI, P, f, sh, R, vs, cR, rest, Fd, sf, uf, kf, oM, oP, oA, oR, vM, vP, vA, hf, dM, dP, dA, dR, cA, rfl, ⟨n1, n2, n3, n4, n5, n6, n7, n8, b1, b2, b3, b4, b5⟩, hb, hF, zf, hrows⟩
    obtain ⟨w1, w2, w3, w4, w5, w6, w7, w8, w9, w10, w11⟩ := offI_of oI
    have hvl := hrows.1
    refine TurnsC.zero (fun h2 tk2 F2 N2 => ?_)
    k_steps
    refine' taken_ret (q := f) (P := P) hret ?F ?N ?hs ?hT ?hR ?hF ?i1 ?i2 ?hz ?he ?hrows ?hE ?hP
    (case F => k_asm)
    (case N => k_asm)
    (case hs => kcj_all)
    (case hT => k_mem)
    (case hR => k_mem)
    (case hF => k_mem)
    (case i1 => exact rfl)
    (case i2 => exact rfl)
    (case hz => exact zf)
    case hrows => exact hrows.sub (by kcj_all) (fun _ _ _ _ => rfl) (fun _ _ => Nat.le_refl _)
    (case he => decide)
    (case hE => exact fun _ _ => by decide)
    case hP => exact (.inl sh)
end Mine
end
section
open PySem PySem.W PyProof.Rows PySem.Calls PySem.Spec
set_option Elab.async false
set_option maxRecDepth 100000
set_option maxHeartbeats 8000000
namespace Mine
local macro_rules | `(tactic| k_mem) => `(tactic| ((repeat' (first | (with_reducible exact List.mem_cons_self ..) | ktr_member | (with_reducible refine List.mem_cons_of_mem _ ?_))); done))
local macro_rules | `(tactic| mul_fits) => `(tactic| exact Fit.mul (by assumption) (by assumption))
local macro_rules | `(tactic| k_lt $h:ident) => `(tactic| replace $h := allLt_of $h)
local macro_rules | `(tactic| k_ne) => `(tactic| ((refine neN ?_); (try dsimp only); first | (with_reducible assumption) | (refine' Ne3.ci ?oa; (case oa => with_reducible assumption)) | (refine' Ne3.di ?oa; (case oa => with_reducible assumption)) | (refine' Ne3.dc ?oa; (case oa => with_reducible assumption)) | (refine' ne_lt ?oa ?ob; (case oa => with_reducible assumption); (case ob => k_mem)) | (refine' ne_lt' ?oa ?ob; (case oa => with_reducible assumption); (case ob => k_mem)) | (refine' ne_off1 ?oa ?ob; (case oa => with_reducible assumption); (case ob => k_mem)) | (refine' ne_off1' ?oa ?ob; (case oa => with_reducible assumption); (case ob => k_mem)) | (refine' ne_off3I ?oa ?ob; (case oa => with_reducible assumption); (case ob => k_mem)) | (refine' ne_off3C ?oa ?ob; (case oa => with_reducible assumption); (case ob => k_mem)) | (refine' ne_off3D ?oa ?ob; (case oa => with_reducible assumption); (case ob => k_mem)) | (refine' ne_off3I' ?oa ?ob; (case oa => with_reducible assumption); (case ob => k_mem)) | (refine' ne_off3C' ?oa ?ob; (case oa => with_reducible assumption); (case ob => k_mem)) | (refine' ne_off3D' ?oa ?ob; (case oa => with_reducible assumption); (case ob => k_mem)) | omega))
local macro_rules | `(tactic| k_all) => `(tactic| ((repeat' (first | (with_reducible refine' List.forall_mem_cons.mpr ⟨?_, ?_⟩) | exact List.forall_mem_nil _ | (refine' ne_id ?oa; (case oa => with_reducible assumption)) | (refine' tail_lt ?oa ?ob; (case oa => with_reducible assumption); (case ob => kcj_all)) | (refine' tail_off1 ?oa ?ob; (case oa => with_reducible assumption); (case ob => kcj_all)) | (refine' tail_off3I ?oa ?ob; (case oa => with_reducible assumption); (case ob => kcj_all)) | (refine' tail_off3C ?oa ?ob; (case oa => with_reducible assumption); (case ob => kcj_all)) | (refine' tail_off3D ?oa ?ob; (case oa => with_reducible assumption); (case ob => kcj_all)) | (refine' ne_of_allLt_le ?oa ?ob; (case oa => with_reducible assumption); (case ob => omega)) | k_ne)); done))
local macro_rules | `(tactic| k_upd) => `(tactic| ((repeat' (first | (with_reducible refine' Del.head ?_) | (with_reducible refine' Del.tail ?_ ?_) | (with_reducible refine' Upd.head ?_) | (with_reducible refine' Upd.tail ?_ ?_) | (with_reducible refine' UpdF.head ?_) | (with_reducible refine' UpdF.tail ?_ ?_) | k_all | k_ne)); done))
local macro_rules | `(tactic| kcj_all) => `(tactic| ((repeat' (first | (with_reducible exact mem_same) | exact List.forall_mem_nil _ | (with_reducible refine' List.forall_mem_cons.mpr ⟨?_, ?_⟩) | (with_reducible refine' mem_step ?_) | k_mem)); done))
local macro_rules | `(tactic| walk_at "exec For Name Name cons nil") => `(tactic| (k_here; (rename Fr _ _ _ _ => lF'); (with_unfolding_all refine' For_invVF lF' ?k1 ?k2 ?_; (case k1 => exact rfl); (case k2 => exact rfl); k_whole); l_hasStore))
local macro_rules | `(tactic| walk_at "pyIter ref") => `(tactic| ((with_reducible show wpAny _ _ (pyIter (Value.ref _)) (fun it s₂ => LoopAtV _ _ _ _ _ _ _ _ _ it s₂) _ _); (rename Fr _ _ _ _ => lF'); (rename News _ _ _ _ => lN'); (with_unfolding_all refine' iter_listUnr ?hh lF' lN' ?hm ?hc ?hd ?_; (case hh => exact rfl); (case hm => k_mem); (case hc => exact rfl); (case hd => exact rfl)); clear lF' lN'; intro i' l1; (have l1' := allLt_of l1); clear l1))
local macro_rules | `(tactic| walk_at "UnrEnd") => `(tactic| (k_here; k_dflt (refine' unr_end ?F ?N ?D ?_; (case F => k_asm); (case N => k_asm); (case D => k_upd)); (try (refine ⟨by k_mem, ?_⟩)))) 
local macro_rules | `(tactic| walk_at "CompRest") => `(tactic| (with_unfolding_all first
  | (refine LCg.CompRest.succ ?_; intro v' I' oI' C' oC' D' m' h' tk' E' hv' hC' hx' F' N' off' ne'; (first | lcg_open hv' | (obtain ⟨t9', hv9'⟩ := hv'; subst hv9')); (replace ne' := Ne3.mk' ne'))
  | refine LCg.CompRest.zero ?_))
local macro_rules | `(tactic| walk_at "CompEnd") => `(tactic| (k_here; k_dflt (refine' comp_keep ?F ?N ?O ?K ?h1 ?h2 ?h3 ?hs ?S ?_; (case F => k_asm); (case N => k_asm); (case O => with_reducible assumption); (case K => k_mem); (case h1 => k_ne); (case h2 => k_ne); (case h3 => k_ne); (case hs => ((repeat' (first | (with_reducible exact mem_same) | (with_reducible refine' mem_step ?_))); done)); (case S => lcg_src))))
local macro_rules | `(tactic| walk_at "FinE") => `(tactic| ((unfold LCg.FinE); intro D' h' tk' F' N' o1'; (try simp only [List.nil_append, List.cons_append] at N'); (try dsimp only)))
local macro_rules | `(tactic| walk_at "FinA") => `(tactic| ((unfold LCg.FinA); intro D' h' tk' F' N' o1'; (try simp only [List.nil_append, List.cons_append] at N'); (try dsimp only)))
local macro_rules | `(tactic| walk_at "UnrEnd") => `(tactic| (k_here; k_dflt (refine' unr_keep (o := tup2 _ _ _ _ _) ?F ?N ?hs ?K ?h1 ?off ?_; (case F => k_asm); (case N => k_asm); (case hs => ((repeat' (first | (with_reducible exact mem_same) | (with_reducible refine' mem_step ?_))); done)); (case K => k_mem); (case h1 => k_ne); (case off => k_all)); (try (refine ⟨by k_mem, ?_⟩))))
local macro_rules | `(tactic| walk_at "call ref") => `(tactic| (k_here; (with_reducible show wpAny _ _ (call (Value.ref 74) _) _ _ _); k_dflt (refine' sum_use ?k1 ?k2 ?k3 ?k4 ?k5 ?kK ?kd ?ku ?g ?hx ?hy ?i1 ?i2 ?i3 ?i4 ?hp ?hq ?hs ?_; (case k1 => k_asm); (case k2 => k_asm); (case k3 => k_asm); (case k4 => k_asm); (case k5 => k_asm); (case kK => first | exact rfl | assumption); (case kd => ktr_room); (case ku => ktr_units); (case g => assumption); (case hx => k_mem); (case hy => k_mem); (case i1 => first | exact rfl | exact num0 | exact num1); (case i2 => first | exact rfl | exact den0 | exact den1); (case i3 => first | exact rfl | exact num0 | exact num1); (case i4 => first | exact rfl | exact den0 | exact den1); (case hp => first | (with_reducible assumption) | exact Sz.zero | exact Sz.one); (case hq => first | (with_reducible assumption) | exact Sz.zero | exact Sz.one); (case hs => omega); k_whole); intro D' u1' u2' c' h' tk' F' N' l1' sz'; (try dsimp only); (try k_fold)))
local macro_rules | `(tactic| walk_at "call ref") => `(tactic| (k_here; (with_reducible show wpAny _ _ (call (Value.ref 81) _) _ _ _); k_dflt (refine' diff_use ?k1 ?k2 ?k3 ?k4 ?k5 ?kK ?kd ?ku ?g ?hx ?hy ?i1 ?i2 ?i3 ?i4 ?hp ?hq ?hs ?_; (case k1 => k_asm); (case k2 => k_asm); (case k3 => k_asm); (case k4 => k_asm); (case k5 => k_asm); (case kK => first | exact rfl | assumption); (case kd => ktr_room); (case ku => ktr_units); (case g => assumption); (case hx => k_mem); (case hy => k_mem); (case i1 => first | exact rfl | exact num0 | exact num1); (case i2 => first | exact rfl | exact den0 | exact den1); (case i3 => first | exact rfl | exact num0 | exact num1); (case i4 => first | exact rfl | exact den0 | exact den1); (case hp => first | (with_reducible assumption) | exact Sz.zero | exact Sz.one); (case hq => first | (with_reducible assumption) | exact Sz.zero | exact Sz.one); (case hs => omega); k_whole); intro D' u1' u2' c' h' tk' F' N' l1' sz'; (try dsimp only); (try k_fold)))
local macro_rules | `(tactic| walk_at "call ref") => `(tactic| (k_here; (with_reducible show wpAny _ _ (call (Value.ref 88) _) _ _ _); k_dflt (refine' prod_use ?k1 ?k2 ?k3 ?k4 ?k5 ?kK ?kd ?ku ?g ?hx ?hy ?i1 ?i2 ?i3 ?i4 ?hp ?hq ?hs ?_; (case k1 => k_asm); (case k2 => k_asm); (case k3 => k_asm); (case k4 => k_asm); (case k5 => k_asm); (case kK => first | exact rfl | assumption); (case kd => ktr_room); (case ku => ktr_units); (case g => assumption); (case hx => k_mem); (case hy => k_mem); (case i1 => first | exact rfl | exact num0 | exact num1); (case i2 => first | exact rfl | exact den0 | exact den1); (case i3 => first | exact rfl | exact num0 | exact num1); (case i4 => first | exact rfl | exact den0 | exact den1); (case hp => first | (with_reducible assumption) | exact Sz.zero | exact Sz.one); (case hq => first | (with_reducible assumption) | exact Sz.zero | exact Sz.one); (case hs => omega); k_whole); intro D' u1' u2' c' h' tk' F' N' l1' sz'; (try dsimp only); (try k_fold)))
local macro_rules | `(tactic| walk_at "call ref") => `(tactic| (k_here; (with_reducible show wpAny _ _ (call (Value.ref 95) _) _ _ _); k_dflt (refine' quot_use ?k1 ?k2 ?k3 ?k4 ?k5 ?kK ?kd ?ku ?g ?hx ?hy ?i1 ?i2 ?i3 ?i4 ?hp ?hq ?hs ?hn ?_; (case k1 => k_asm); (case k2 => k_asm); (case k3 => k_asm); (case k4 => k_asm); (case k5 => k_asm); (case kK => first | exact rfl | assumption); (case kd => ktr_room); (case ku => ktr_units); (case g => assumption); (case hx => k_mem); (case hy => k_mem); (case i1 => first | exact rfl | exact num0 | exact num1); (case i2 => first | exact rfl | exact den0 | exact den1); (case i3 => first | exact rfl | exact num0 | exact num1); (case i4 => first | exact rfl | exact den0 | exact den1); (case hp => first | (with_reducible assumption) | exact Sz.zero | exact Sz.one); (case hq => first | (with_reducible assumption) | exact Sz.zero | exact Sz.one); (case hs => omega); (case hn => assumption); k_whole); intro D' u1' u2' c' h' tk' F' N' l1' sz'; (try dsimp only); (try k_fold)))
local macro_rules | `(tactic| walk_at "call ref") => `(tactic| (k_here; (with_reducible show wpAny _ _ (call (Value.ref 102) _) _ _ _); k_dflt (refine' neg_use ?k1 ?k2 ?k3 ?k4 ?k5 ?kK ?kd ?ku ?hx ?i1 ?i2 ?hp ?_; (case k1 => k_asm); (case k2 => k_asm); (case k3 => k_asm); (case k4 => k_asm); (case k5 => k_asm); (case kK => first | exact rfl | assumption); (case kd => ktr_room); (case ku => ktr_units); (case hx => k_mem); (case i1 => first | exact rfl | exact num0 | exact num1); (case i2 => first | exact rfl | exact den0 | exact den1); (case hp => first | (with_reducible assumption) | exact Sz.zero | exact Sz.one); k_whole); intro D' u1' u2' c' h' tk' F' N' l1' sz'; (try dsimp only); (try k_fold)))
local macro_rules | `(tactic| walk_at "call ref") => `(tactic| (k_here; (with_reducible show wpAny _ _ (call (Value.ref 116) _) _ _ _); k_dflt (refine' order_use ?k1 ?k2 ?k3 ?k4 ?k5 ?kK ?kd ?ku ?hx ?hy ?i1 ?i2 ?i3 ?i4 ?hp ?hq ?hs ?_; (case k1 => k_asm); (case k2 => k_asm); (case k3 => k_asm); (case k4 => k_asm); (case k5 => k_asm); (case kK => first | exact rfl | assumption); (case kd => ktr_room); (case ku => ktr_units); (case hx => k_mem); (case hy => k_mem); (case i1 => first | exact rfl | exact num0 | exact num1); (case i2 => first | exact rfl | exact den0 | exact den1); (case i3 => first | exact rfl | exact num0 | exact num1); (case i4 => first | exact rfl | exact den0 | exact den1); (case hp => first | (with_reducible assumption) | exact Sz.zero | exact Sz.one); (case hq => first | (with_reducible assumption) | exact Sz.zero | exact Sz.one); (case hs => omega); k_whole); intro u' h' tk' F' N'; (try dsimp only); (try k_fold)))
local macro_rules | `(tactic| walk_at "subscriptTail") => `(tactic| (k_here; (with_reducible show wpAny _ _ (subscriptTail _ _ (Value.ref _) (Value.int _ _)) _ _ _); k_dflt (refine' item_led ?N ?m ?a ?b ?x ?_; (case N => k_asm); (case m => k_mem); (case a => first | (with_reducible assumption) | decide); (case b => first | (with_reducible assumption) | decide); (case x => first | (with_reducible assumption) | exact rfl); k_whole)))
local macro_rules | `(tactic| walk_at "subscriptTail Name") => `(tactic| (k_here; (with_reducible show wpAny _ _ (subscriptTail _ _ (Value.ref _) (Value.int _ _)) _ _ _); k_dflt (refine' item_led ?N ?m ?a ?b ?x ?_; (case N => k_asm); (case m => k_mem); (case a => first | (with_reducible assumption) | decide); (case b => first | (with_reducible assumption) | decide); (case x => first | (with_reducible assumption) | exact rfl); k_whole)))
local macro_rules | `(tactic| walk_at "subscriptTail Name Constant ref int") => `(tactic| (k_here; (with_reducible show wpAny _ _ (subscriptTail _ _ (Value.ref _) (Value.int _ _)) _ _ _); k_dflt (refine' item_led ?N ?m ?a ?b ?x ?_; (case N => k_asm); (case m => k_mem); (case a => first | (with_reducible assumption) | decide); (case b => first | (with_reducible assumption) | decide); (case x => first | (with_reducible assumption) | exact rfl); k_whole)))
local macro_rules | `(tactic| walk_at "subscriptTail Name Name ref int") => `(tactic| (k_here; (with_reducible show wpAny _ _ (subscriptTail _ _ (Value.ref _) (Value.int _ _)) _ _ _); k_dflt (refine' item_led ?N ?m ?a ?b ?x ?_; (case N => k_asm); (case m => k_mem); (case a => first | (with_reducible assumption) | decide); (case b => first | (with_reducible assumption) | decide); (case x => first | (with_reducible assumption) | exact rfl); k_whole)))
local macro_rules | `(tactic| walk_at "subscriptTail Subscript Name Constant Name ref int") => `(tactic| (k_here; (with_reducible show wpAny _ _ (subscriptTail _ _ (Value.ref _) (Value.int _ _)) _ _ _); k_dflt (refine' item_led ?N ?m ?a ?b ?x ?_; (case N => k_asm); (case m => k_mem); (case a => first | (with_reducible assumption) | decide); (case b => first | (with_reducible assumption) | decide); (case x => first | (with_reducible assumption) | exact rfl); k_whole)))
local macro_rules | `(tactic| walk_at "subscriptTail Subscript Name Constant Constant ref int") => `(tactic| (k_here; (with_reducible show wpAny _ _ (subscriptTail _ _ (Value.ref _) (Value.int _ _)) _ _ _); k_dflt (refine' item_led ?N ?m ?a ?b ?x ?_; (case N => k_asm); (case m => k_mem); (case a => first | (with_reducible assumption) | decide); (case b => first | (with_reducible assumption) | decide); (case x => first | (with_reducible assumption) | exact rfl); k_whole)))
local macro_rules | `(tactic| walk_at "subscriptTail Subscript Name Name Name ref int") => `(tactic| (k_here; (with_reducible show wpAny _ _ (subscriptTail _ _ (Value.ref _) (Value.int _ _)) _ _ _); k_dflt (refine' item_led ?N ?m ?a ?b ?x ?_; (case N => k_asm); (case m => k_mem); (case a => first | (with_reducible assumption) | decide); (case b => first | (with_reducible assumption) | decide); (case x => first | (with_reducible assumption) | exact rfl); k_whole)))
local macro_rules | `(tactic| walk_at "subscriptTail Subscript Name Name Constant ref int") => `(tactic| (k_here; (with_reducible show wpAny _ _ (subscriptTail _ _ (Value.ref _) (Value.int _ _)) _ _ _); k_dflt (refine' item_led ?N ?m ?a ?b ?x ?_; (case N => k_asm); (case m => k_mem); (case a => first | (with_reducible assumption) | decide); (case b => first | (with_reducible assumption) | decide); (case x => first | (with_reducible assumption) | exact rfl); k_whole)))
local macro_rules | `(tactic| walk_at "getItem ref int") => `(tactic| (k_here; (with_reducible show wpAny _ _ (getItem (Value.ref _) (Value.int _ _)) _ _ _); k_dflt (refine' getItem_led ?N ?m ?a ?b ?x ?_; (case N => k_asm); (case m => k_mem); (case a => first | (with_reducible assumption) | decide); (case b => first | (with_reducible assumption) | decide); (case x => first | (with_reducible assumption) | exact rfl); k_whole)))
local macro_rules | `(tactic| walk_at "callWith builtin:list.append cons nil") => `(tactic| refine callWith_method1 ?_)
local macro_rules | `(tactic| walk_at "callWith builtin:len nil nil") => `(tactic| refine callWith_builtin1 ?_)
local macro_rules | `(tactic| walk_at "callWith builtin:len cons nil") => `(tactic| refine callWith_builtin1 ?_)
local macro_rules | `(tactic| walk_at "exec Assign cons ListComp") => `(tactic| (k_here; k_dflt (refine LCg.Assign_ListComp_U (F₀ := by k_asm) (by rfl) (by with_unfolding_all rfl) (by with_unfolding_all rfl) (by decide) (by rfl) (by decide) (by rfl) (by rfl) (by rfl) ?_)))
local macro_rules | `(tactic| walk_at "CompSrc") => `(tactic| (k_here; k_dflt (refine' LCg.CompSrc.ledger ?hh ?F ?N ?hm ?hz ?_; (case hh => exact rfl); (case F => k_asm); (case N => k_asm); (case hm => k_mem); (case hz => first | exact Nat.le_of_ble_eq_true rfl | size_fits)); intro g'; lcg_lit))
local macro_rules | `(tactic| walk_at "call builtin:list.append cons nil") => `(tactic| (k_here; k_dflt (refine' append_K ?k1 ?k2 ?k3 ?_ ?z; (case k1 => k_asm); (case k2 => k_asm); (case k3 => k_upd); (case z => size_fits); k_whole); intro h' F' N'; (try k_sweep)))
local macro_rules | `(tactic| walk_at "eval Name") => `(tactic| (k_here; (with_reducible show wpAny _ _ (eval (PySem.Expr.Name _ _) (envOfC _ _ _ _ _)) _ _ _); k_dflt (first | (refine' nameX_L ?F ?v ?_ ?a ?b; (case a => rfl); (case b => rfl); (case F => k_asm); (case v => rfl); k_whole) | (refine' nameX_C ?N ?c ?m ?d ?_ ?a ?b; (case a => rfl); (case b => rfl); (case N => k_asm); (case c => rfl); (case m => k_mem); (case d => with_reducible assumption); k_whole) | (refine' nameX_K ?F ?X ?T ?e ?_ ?a ?b; (case a => rfl); (case b => rfl); (case F => k_asm); (case X => k_asm); (case T => k_asm); (case e => k_is); k_whole))))
local macro_rules | `(tactic| walk_at "eval Name") => `(tactic| (k_here; (with_reducible show wpAny _ _ (eval (PySem.Expr.Name _ _) (envOfC _ _ _ _ _)) _ _ _); k_dflt (first | (refine' nameX_L ?F ?v ?_ ?a ?b; (case a => rfl); (case b => rfl); (case F => k_asm); (case v => first | rfl | assumption); k_whole) | (refine' nameX_C ?N ?c ?m ?d ?_ ?a ?b; (case a => rfl); (case b => rfl); (case N => k_asm); (case c => rfl); (case m => k_mem); (case d => with_reducible assumption); k_whole) | (refine' nameX_K ?F ?X ?T ?e ?_ ?a ?b; (case a => rfl); (case b => rfl); (case F => k_asm); (case X => k_asm); (case T => k_asm); (case e => k_is); k_whole))))
local macro_rules | `(tactic| walk_at "call builtin:len") => `(tactic| (k_here; (with_reducible show wpAny _ _ (call (Value.builtin "len") [Value.ref _]) _ _ _); k_dflt (refine' len_led ?k1 ?k2 ?k3 ?k4 ?_; (case k1 => k_asm); (case k2 => k_mem); (case k3 => first | (with_reducible assumption) | (refine' len_set ?z; (case z => with_reducible assumption))); (case k4 => decide); k_whole); (try dsimp only)))
local macro_rules | `(tactic| walk_at "compareOp Eq ref ref") => `(tactic| (k_here; (with_reducible show wpAny _ _ (compareOp CmpOp.Eq (Value.ref _) (Value.ref _)) _ _ _); k_dflt (refine' eq_rats ?N ?ha ?hb ?i1 ?i2 ?i3 ?i4 ?hu ?_; (case N => k_asm); (case ha => k_mem); (case hb => k_mem); (case i1 => first | exact rfl | exact num0 | exact num1); (case i2 => first | exact rfl | exact den0 | exact den1); (case i3 => first | exact rfl | exact num0 | exact num1); (case i4 => first | exact rfl | exact den0 | exact den1); (case hu => first | ktr_units | units_room | omega); k_whole)))
local macro_rules | `(tactic| walk_at "compareOp NotEq ref ref") => `(tactic| (k_here; (with_reducible show wpAny _ _ (compareOp CmpOp.NotEq (Value.ref _) (Value.ref _)) _ _ _); k_dflt (refine' ne_rats ?N ?ha ?hb ?i1 ?i2 ?i3 ?i4 ?hu ?_; (case N => k_asm); (case ha => k_mem); (case hb => k_mem); (case i1 => first | exact rfl | exact num0 | exact num1); (case i2 => first | exact rfl | exact den0 | exact den1); (case i3 => first | exact rfl | exact num0 | exact num1); (case i4 => first | exact rfl | exact den0 | exact den1); (case hu => first | ktr_units | units_room | omega); k_whole)))
local macro_rules | `(tactic| walk_at "setItem ref int ref") => `(tactic| (k_here; k_dflt (refine' set_any ?k1 ?k2 ?k3 ?k4 ?k5 ?k6 ?_; (case k1 => k_asm); (case k2 => k_asm); (case k6 => k_upd); (case k3 => with_reducible assumption); (case k4 => with_reducible assumption); (case k5 => (try simp only [List.length_set]); omega); k_whole); intro h' F' N'; (try k_sweep)))
local macro_rules | `(tactic| walk_at "exec Assign cons ListComp") => `(tactic| (k_here; k_dflt (first | (refine LCg.Assign_ListComp_U (F₀ := by k_asm) (by rfl) (by with_unfolding_all rfl) (by with_unfolding_all rfl) (by decide) (by rfl) (by decide) (by rfl) (by rfl) (by rfl) ?_) | ((with_reducible refine wpAny_Assign_Name ?_ ?_); rotate_left; (with_unfolding_all rfl)))))
local macro_rules | `(tactic| walk_at "call ref") => `(tactic| (k_here; (with_reducible show wpAny _ _ (call (Value.ref 155) _) _ _ _); k_dflt (refine' size_use ?k1 ?k2 ?k3 ?k4 ?k5 ?kK ?kd ?ku ?hx ?hp ?hs ?_; (case k1 => k_asm); (case k2 => k_asm); (case k3 => k_asm); (case k4 => k_asm); (case k5 => k_asm); (case kK => first | exact rfl | assumption); (case kd => ktr_room); (case ku => ktr_units); (case hx => k_mem); (case hp => with_reducible assumption); (case hs => omega); k_whole); intro D' u1' u2' c' h' tk' F' N' sz'; (try dsimp only); (try k_fold)))
local macro_rules | `(tactic| kcj_all) => `(tactic| ((repeat' (first | (with_reducible assumption) | (with_reducible exact mem_same) | exact List.forall_mem_nil _ | (with_reducible refine' List.forall_mem_cons.mpr ⟨?_, ?_⟩) | (with_reducible refine' mem_step ?_) | k_mem)); done))
local macro_rules | `(tactic| walk_at "CompSrc") => `(tactic| (k_here; k_dflt (refine LCg.CompSrc.range (by rfl) (by k_asm) (by k_asm) (by assumption) (by first | decide | rfl) (by first | rfl | decide) (by first | size_fits | exact Nat.le_of_ble_eq_true rfl) ?_; intro g'; lcg_lit)))
local macro_rules | `(tactic| walk_at "exec Assign cons ListComp") => `(tactic| (with_reducible refine wpAny_Assign_Subscript ?_ ?_; rotate_left; with_unfolding_all rfl))
local macro_rules | `(tactic| walk_at "execs cons For cons") => `(tactic| (refine Stop.out ?_))
local macro_rules | `(tactic| walk_at "execs cons If cons") => `(tactic| (refine Stop.out ?_))
local macro_rules | `(tactic| walk_at "exec For Name Call cons nil") => `(tactic| (k_here; k_dflt (refine For_C ?_)))
local macro_rules | `(tactic| walk_at "pyIter ref") => `(tactic| ((with_reducible show wpAny _ _ (pyIter (Value.ref _)) (LoopC _ _ _ _ _ _ _ _ _) _ _); (refine Stop.out ?_)))
local macro_rules | `(tactic| walk_at "UnrEnd") => `(tactic| (refine Stop.out ?_))
theorem taken22_does (w : World) (mean : ExcName → Option Value) (mg mb : Str → Option Value) (G : Great mg) (Sh : Nat → (Nat → Nat → Rat) → Rat → Prop) (M : Nat → Nat → Rat) (hsh0 : Sh 0 M 1)
    (hsw : ∀ a ld P f, a < 2 → a < ld → ld < 2 → Sh a P f → Sh a (swapP P a ld) (-f)) (hel : ∀ a P f, a < 2 → Sh a P f → P a a ≠ 0 → Sh (a + 1) (elimP P a 2) (f * P a a)) (news : List (Addr × Obj)) (lx : Addr) (cx : Nat) (rx0 : Addr) (cx0 : Nat) (rx1 : Addr) (cx1 : Nat) (ax00 : Addr) (sx00 ux00 : Tok) (kx00 : Nat) (ax01 : Addr) (sx01 ux01 : Tok) (kx01 : Nat) (ax10 : Addr) (sx10 ux10 : Tok) (kx10 : Nat) (ax11 : Addr) (sx11 ux11 : Tok) (kx11 : Nat)
    (hxl : (lx, listObj [.ref rx0, .ref rx1] cx) ∈ news) (hxr0 : (rx0, listObj [.ref ax00, .ref ax01] cx0) ∈ news) (hxr1 : (rx1, listObj [.ref ax10, .ref ax11] cx1) ∈ news) (hx00 : (ax00, tup2 (M 0 0).num sx00 (M 0 0).den ux00 kx00) ∈ news) (zx00 : Sz 2 (M 0 0)) (hx01 : (ax01, tup2 (M 0 1).num sx01 (M 0 1).den ux01 kx01) ∈ news) (zx01 : Sz 2 (M 0 1)) (hx10 : (ax10, tup2 (M 1 0).num sx10 (M 1 0).den ux10 kx10) ∈ news) (zx10 : Sz 2 (M 1 0)) (hx11 : (ax11, tup2 (M 1 1).num sx11 (M 1 1).den ux11 kx11) ∈ news) (zx11 : Sz 2 (M 1 1)) :
    Does w mean mg mb 16 160 news [.ref lx] (TakenPost Sh 2 2 news) := by
  intro dp un gd cn cs a ccd cl outer A₀ base h₀ L m s Q E B F X N T hk hd hu hret
  refine wpAny_call ?_
  k_dflt (refine' code_defC (binds := [(PySem.Str.ofString "rows", .ref lx)]) ?k1 ?k2 ?k3 ?k4 ?k5 ?kA ?kF ?kK ?k6 ?k7 ?k8 ?k9 ?kB ?kD ?_ ?c2 ?c3 ?c4; (case kA => exact rfl); (case kF => exact rfl); (case kK => assumption); (case k1 => k_asm); (case k2 => k_asm); (case k3 => k_asm); (case k4 => k_asm); (case k5 => k_asm); (case k6 => k_is); (case k7 => k_is); (case k8 => ktr_room); (case k9 => exact BindsTo.of_eq rfl); (case kB => exact rfl); (case kD => decide +kernel); (case c2 => exact rfl); (case c3 => exact rfl); (case c4 => exact rfl); k_whole)
  intro g' L' h' tk' cells' FG' F' N' Y' B' X' T' l1
  have l2 := allLt_of l1
  have l3 : AllLt (L' + 1) _ := AllLt.mono l2 (Nat.le_succ _)
  have l4 : AllLt (L' + 1 + 1) _ := AllLt.mono l3 (Nat.le_succ _)
  k_cells Y'
  (try simp only [List.cons_append, List.nil_append] at N')
  (try dsimp only)
  (try k_fold)
  have l5 : AllLt (L' + 1 + 1 + 1) _ := AllLt.mono l4 (Nat.le_succ _)
  have l6 : AllLt (L' + 1 + 1 + 1 + 1) _ := AllLt.mono l5 (Nat.le_succ _)
  k_steps
  refine Stop.mk (wpAny_execs_cons ?_)
  k_steps
  refine Stop.mk ?_
  refine' iter_st (J := (fun I v mm nw => LCg.Off1 I nw ∧ ∃ P f, Sh v.toNat P f ∧ St 2 2 L' news (fun _ => True) P (fun _ => eN v.toNat) f (eN v.toNat) mm nw)) (T := fun mm nw => St 2 2 L' news (fun _ => True) M (fun _ => 2) 1 2 mm nw) rfl ?hr ?hab ?F ?N ?hE ?st ?mono ?h2 ?h3x3
  (case hr => assumption)
  (case hab => decide)
  (case F => k_asm)
  (case N => k_asm)
  (case hE => first | passes_own | with_unfolding_all passes_own)
  case st =>
    (refine' St.intro ?dM ?dP ?dA ?dR ?D1 ?D2 ?D3 ?D4 ?D5 ?hf ?hF ?i1 ?i2 ?hb ?hz ?hl ?cA ?hR; (case D1 => k_upd); (case D2 => k_upd); (case D3 => k_upd); (case D4 => k_upd); (case dR => with_reducible assumption); (case D5 => k_upd); (case dM => with_reducible assumption); (case dP => with_reducible assumption); (case dA => with_reducible assumption); (case hf => first | rfl | assumption); (case hF => k_mem); (case i1 => first | exact rfl | exact num1); (case i2 => first | exact rfl | exact den1); (case hb => kcj_all); (case hz => first | (with_reducible assumption) | exact Sz.one); (case hl => first | exact Nat.le_refl _ | omega))
    case cA => exact trivial
    case hR => exact RowsAt.of2 (RowAt.of2 (by k_mem) (by k_mem) (by with_reducible assumption) (Nat.le_refl _) rfl (by k_mem) (by with_reducible assumption) (Nat.le_refl _) rfl) (RowAt.of2 (by k_mem) (by k_mem) (by with_reducible assumption) (Nat.le_refl _) rfl (by k_mem) (by with_reducible assumption) (Nat.le_refl _) rfl)
  case mono => exact fun I nw ho hh => ⟨ho, M, 1, hsh0, hh⟩
  case h2 =>
    clear l2 l3 l4 l5 l6
    rintro I1 v0 m0 nw0 g1 g2 ⟨oI, P, f, sh, R, vs, cR, rest, Fd, sf, uf, kf, oM, oP, oA, oR, vM, vP, vA, hf, dM, dP, dA, dR, cA, rfl, ⟨n1, n2, n3, n4, n5, n6, n7, n8, b1, b2, b3, b4, b5⟩, hb, hF, zf, hrows⟩ it1 t1 h1 tk1 F1 N1
    obtain ⟨w1, w2, w3, w4, w5, w6, w7, w8, w9, w10, w11⟩ := offI_of oI
    clear oI
    have hvl := hrows.1
    have gvn : v0.toNat < 2 := by omega
    have gv63 : v0 < 2 ^ 63 := by omega
    have ge : eN v0.toNat ≤ 79 := eN_le (by omega)
    k_steps
    refine Stop.mk (execs_cut (MidS { s with heap := h1, toks := tk1 } g' L' I1 it1 (fun mm nw => LCg.Off1 I1 nw ∧ (∃ ld t, mm (PySem.Str.ofString "lead") = some (.int ld t) ∧ v0 ≤ ld ∧ ld < 2 ∧ (∀ i : Nat, v0.toNat ≤ i → i < 2 → P ld.toNat v0.toNat = 0 → P i v0.toNat = 0)) ∧ St 2 2 L' news (fun v => ∃ t, v = some (.int v0 t)) P (fun _ => eN v0.toNat) f (eN v0.toNat) mm nw)) ?_ ?_)
    · k_steps
      refine Stop.mk ?_
      refine' iter_st (J := (fun I2 k mm nw => LCg.Off1 I2 nw ∧ ∃ nw0, nw = (I1, it1) :: nw0 ∧ LCg.Off1 I1 nw0 ∧ (∃ ld t, mm (PySem.Str.ofString "lead") = some (.int ld t) ∧ v0 ≤ ld ∧ ld < 2 ∧ (∀ i : Nat, v0.toNat ≤ i → i < k.toNat → P ld.toNat v0.toNat = 0 → P i v0.toNat = 0)) ∧ St 2 2 L' news (fun v => ∃ t, v = some (.int v0 t)) P (fun _ => eN v0.toNat) f (eN v0.toNat) mm nw0)) (T := fun mm nw => ∃ nw0, nw = (I1, it1) :: nw0 ∧ LCg.Off1 I1 nw0 ∧ St 2 2 L' news (fun v => ∃ t, v = some (.int v0 t)) P (fun _ => eN v0.toNat) f (eN v0.toNat) mm nw0) rfl ?hr ?hab ?F ?N ?hE ?st ?mono ?h2 ?h3x2
      (case hr => assumption)
      (case hab => omega)
      (case F => k_asm)
      (case N => k_asm)
      (case hE => first | passes_own | with_unfolding_all passes_own)
      case st =>
        refine' with_iter ?d1 ?st2
        (case d1 => k_upd)
        case st2 =>
          (refine' St.intro ?dM ?dP ?dA ?dR ?D1 ?D2 ?D3 ?D4 ?D5 ?hf ?hF ?i1 ?i2 ?hb ?hz ?hl ?cA ?hR; (case D1 => k_upd); (case D2 => k_upd); (case D3 => k_upd); (case D4 => k_upd); (case dR => with_reducible assumption); (case D5 => k_upd); (case dM => with_reducible assumption); (case dP => with_reducible assumption); (case dA => with_reducible assumption); (case hf => first | rfl | assumption); (case hF => k_mem); (case i1 => first | exact rfl | exact num1); (case i2 => first | exact rfl | exact den1); (case hb => kcj_all); (case hz => first | (with_reducible assumption) | exact Sz.one); (case hl => first | exact Nat.le_refl _ | omega))
          case cA => exact ⟨_, rfl⟩
          case hR => exact hrows.sub (by kcj_all) (fun _ _ _ _ => rfl) (fun _ _ => Nat.le_refl _)
      case mono => exact fun I nw ho ⟨nw0, e, ho1, hh⟩ => ⟨ho, nw0, e, ho1, ⟨v0, _, rfl, Int.le_refl _, by omega, fun i h1 h2 h3 => (show i = v0.toNat by omega) ▸ h3⟩, hh⟩
      case h2 =>
        rintro I2 k0 m1 nw1 g3 g4 ⟨oI2, nw2, rfl, oI1, ⟨ld, tl, hlead, gl1, gl2, gl3⟩, R, vs, cR, rest, Fd, sf, uf, kf, oM, oP, oA, oR, vM, vP, vA, hf, dM, dP, dA, dR, ⟨tA, rfl⟩, rfl, ⟨n1, n2, n3, n4, n5, n6, n7, n8, b1, b2, b3, b4, b5⟩, hb, hF, zf, hrows⟩ it2 t2 h2 tk2 F2 N2
        obtain ⟨oI3, oI4⟩ := oI2
        have oI5 : @Ne Nat I2 I1 := Ne.symm oI3
        replace oI3 : @Ne Nat I1 I2 := oI3
        obtain ⟨w1, w2, w3, w4, w5, w6, w7, w8, w9, w10, w11⟩ := offI_of oI1
        obtain ⟨v1, v2, v3, v4, v5, v6, v7, v8, v9, v10, v11⟩ := offI_of oI4
        clear oI1 oI4
        have hvl := hrows.1
        have gk63 : k0 < 2 ^ 63 := by omega
        have gk0 : 0 ≤ k0 := by omega
        have gl63 : ld < 2 ^ 63 := by omega
        have gl0 : 0 ≤ ld := by omega
        obtain ⟨xr, xv, xrow⟩ := hrows.2 (k0).toNat (by omega)
        replace xrow : RowAt 2 rest xr (P (k0).toNat) (eN v0.toNat) := xrow
        obtain ⟨xc, xa0, xs0, xu0, xk0, xa1, xs1, xu1, xk1, xx, xsx, xux, xkx, xh, xm0, xm1, xz0, xz1, xcol, xmx, xzx⟩ := RowAt.openc2 (v := v0.toNat) xrow (by omega)
        obtain ⟨yr, yv, yrow⟩ := hrows.2 (ld).toNat (by omega)
        replace yrow : RowAt 2 rest yr (P (ld).toNat) (eN v0.toNat) := yrow
        obtain ⟨yc, ya0, ys0, yu0, yk0, ya1, ys1, yu1, yk1, yx, ysx, yux, ykx, yh, ym0, ym1, yz0, yz1, ycol, ymx, yzx⟩ := RowAt.openc2 (v := v0.toNat) yrow (by omega)
        k_steps
        · refine Stop.mk ?_
          refine' unrEnd_st (T := fun mm nw => ∃ nw0, nw = (I1, it1) :: nw0 ∧ LCg.Off1 I1 nw0 ∧ St 2 2 L' news (fun v => ∃ t, v = some (.int v0 t)) P (fun _ => eN v0.toNat) f (eN v0.toNat) mm nw0) ?F ?N ?d0 ?st ?mono ?off
          (case F => k_asm)
          (case N => k_asm)
          (case d0 => k_upd)
          case st =>
            refine' with_iter ?d1 ?st2
            (case d1 => k_upd)
            case st2 =>
              (refine' St.intro ?dM ?dP ?dA ?dR ?D1 ?D2 ?D3 ?D4 ?D5 ?hf ?hF ?i1 ?i2 ?hb ?hz ?hl ?cA ?hR; (case D1 => k_upd); (case D2 => k_upd); (case D3 => k_upd); (case D4 => k_upd); (case dR => with_reducible assumption); (case D5 => k_upd); (case dM => with_reducible assumption); (case dP => with_reducible assumption); (case dA => with_reducible assumption); (case hf => first | rfl | assumption); (case hF => k_mem); (case i1 => first | exact rfl | exact num1); (case i2 => first | exact rfl | exact den1); (case hb => kcj_all); (case hz => first | (with_reducible assumption) | exact Sz.one); (case hl => first | exact Nat.le_refl _ | omega))
              case cA => exact ⟨_, rfl⟩
              case hR => exact hrows.sub (by kcj_all) (fun _ _ _ _ => rfl) (fun _ _ => Nat.le_refl _)
          case mono => exact fun nw ho ⟨nw0, e, ho1, hh⟩ => ⟨ho, nw0, e, ho1, ⟨k0, _, rfl, by omega, by omega, fun i h1 h2 h3 => absurd h3 (lemB (by assumption))⟩, hh⟩
          case off => exact fun _ _ hh => hh.1
        · refine Stop.mk ?_
          refine' unrEnd_st (T := fun mm nw => ∃ nw0, nw = (I1, it1) :: nw0 ∧ LCg.Off1 I1 nw0 ∧ St 2 2 L' news (fun v => ∃ t, v = some (.int v0 t)) P (fun _ => eN v0.toNat) f (eN v0.toNat) mm nw0) ?F ?N ?d0 ?st ?mono ?off
          (case F => k_asm)
          (case N => k_asm)
          (case d0 => k_upd)
          case st =>
            refine' with_iter ?d1 ?st2
            (case d1 => k_upd)
            case st2 =>
              (refine' St.intro ?dM ?dP ?dA ?dR ?D1 ?D2 ?D3 ?D4 ?D5 ?hf ?hF ?i1 ?i2 ?hb ?hz ?hl ?cA ?hR; (case D1 => k_upd); (case D2 => k_upd); (case D3 => k_upd); (case D4 => k_upd); (case dR => with_reducible assumption); (case D5 => k_upd); (case dM => with_reducible assumption); (case dP => with_reducible assumption); (case dA => with_reducible assumption); (case hf => first | rfl | assumption); (case hF => k_mem); (case i1 => first | exact rfl | exact num1); (case i2 => first | exact rfl | exact den1); (case hb => kcj_all); (case hz => first | (with_reducible assumption) | exact Sz.one); (case hl => first | exact Nat.le_refl _ | omega))
              case cA => exact ⟨_, rfl⟩
              case hR => exact hrows.sub (by kcj_all) (fun _ _ _ _ => rfl) (fun _ _ => Nat.le_refl _)
          case mono => exact fun nw ho ⟨nw0, e, ho1, hh⟩ => ⟨ho, nw0, e, ho1, ⟨ld, _, hlead, gl1, gl2, fun i h1 h2 h3 => (Nat.lt_or_ge i k0.toNat).elim (fun hik => gl3 i h1 hik h3) (fun hik => (show k0.toNat = i by omega) ▸ lemA (by assumption) h3)⟩, hh⟩
          case off => exact fun _ _ hh => hh.1
      case h3x2 =>
        rintro I2 m1 nw1 ⟨oI2, nw2, rfl, oI1, ⟨ld, tl, hlead, gl1, gl2, gl3⟩, R, vs, cR, rest, Fd, sf, uf, kf, oM, oP, oA, oR, vM, vP, vA, hf, dM, dP, dA, dR, ⟨tA, rfl⟩, rfl, ⟨n1, n2, n3, n4, n5, n6, n7, n8, b1, b2, b3, b4, b5⟩, hb, hF, zf, hrows⟩
        obtain ⟨oI3, oI4⟩ := oI2
        have oI5 : @Ne Nat I2 I1 := Ne.symm oI3
        replace oI3 : @Ne Nat I1 I2 := oI3
        obtain ⟨w1, w2, w3, w4, w5, w6, w7, w8, w9, w10, w11⟩ := offI_of oI1
        obtain ⟨v1, v2, v3, v4, v5, v6, v7, v8, v9, v10, v11⟩ := offI_of oI4
        clear oI1 oI4
        have hvl := hrows.1
        refine TurnsC.zero (fun h2 tk2 F2 N2 => ?_)
        k_steps
        refine Stop.mk ?_
        refine' midS_st (T := fun mm nw => St 2 2 L' news (fun v => ∃ t, v = some (.int v0 t)) P (fun _ => eN v0.toNat) f (eN v0.toNat) mm nw) ?F ?N ?d0 ?st ?mono
        (case F => k_asm)
        (case N => k_asm)
        (case d0 => k_upd)
        case st =>
          (refine' St.intro ?dM ?dP ?dA ?dR ?D1 ?D2 ?D3 ?D4 ?D5 ?hf ?hF ?i1 ?i2 ?hb ?hz ?hl ?cA ?hR; (case D1 => k_upd); (case D2 => k_upd); (case D3 => k_upd); (case D4 => k_upd); (case dR => with_reducible assumption); (case D5 => k_upd); (case dM => with_reducible assumption); (case dP => with_reducible assumption); (case dA => with_reducible assumption); (case hf => first | rfl | assumption); (case hF => k_mem); (case i1 => first | exact rfl | exact num1); (case i2 => first | exact rfl | exact den1); (case hb => kcj_all); (case hz => first | (with_reducible assumption) | exact Sz.one); (case hl => first | exact Nat.le_refl _ | omega))
          case cA => exact ⟨_, rfl⟩
          case hR => exact hrows.sub (by kcj_all) (fun _ _ _ _ => rfl) (fun _ _ => Nat.le_refl _)
        case mono => exact fun nw ho hh => ⟨ho, ⟨ld, _, hlead, gl1, gl2, gl3⟩, hh⟩
    · clear hrows n1 n2 n3 n4 n5 n6 n7 n8 b1 b2 b3 b4 b5 w1 w2 w3 w4 w5 w6 w7 w8 w9 w10 w11 hb hF dM dP dA dR hf hvl F1 N1
      rintro s2 ⟨h2, tk2, m2, nw2, rfl, F2, N2, oI1, ⟨ld, tl, hlead, gl1, gl2, gl3⟩, R, vs, cR, rest, Fd, sf, uf, kf, oM, oP, oA, oR, vM, vP, vA, hf, dM, dP, dA, dR, ⟨tA, rfl⟩, rfl, ⟨n1, n2, n3, n4, n5, n6, n7, n8, b1, b2, b3, b4, b5⟩, hb, hF, zf, hrows⟩
      obtain ⟨w1, w2, w3, w4, w5, w6, w7, w8, w9, w10, w11⟩ := offI_of oI1
      clear oI1
      have hvl := hrows.1
      have gl63 : ld < 2 ^ 63 := by omega
      have gl0 : 0 ≤ ld := by omega
      refine execs_cut2 (MidS { s with heap := h1, toks := tk1 } g' L' I1 it1 (fun mm nw => LCg.Off1 I1 nw ∧ ∃ P f, Sh v0.toNat P f ∧ P v0.toNat v0.toNat ≠ 0 ∧ St 2 2 L' news (fun v => ∃ t, v = some (.int v0 t)) P (fun _ => eN v0.toNat) f (eN v0.toNat) mm nw)) ?_ ?_
      · obtain ⟨xr, xv, xrow⟩ := hrows.2 (v0).toNat (by omega)
        obtain ⟨yr, yv, yrow⟩ := hrows.2 (ld).toNat (by omega)
        replace yrow : RowAt 2 rest yr (P (ld).toNat) (eN v0.toNat) := yrow
        obtain ⟨yc, ya0, ys0, yu0, yk0, ya1, ys1, yu1, yk1, yx, ysx, yux, ykx, yh, ym0, ym1, yz0, yz1, ycol, ymx, yzx⟩ := RowAt.openc2 (v := v0.toNat) yrow (by omega)
        k_steps
        · refine' taken_ret (q := 0) (P := P) hret ?F ?N ?hs ?hT ?hR ?hF ?i1 ?i2 ?hz ?he ?hrows ?hE ?hP
          (case F => k_asm)
          (case N => k_asm)
          (case hs => kcj_all)
          (case hT => k_mem)
          (case hR => k_mem)
          (case hF => k_mem)
          (case i1 => exact num0)
          (case i2 => exact den0)
          (case hz => exact Sz.zero)
          case hrows => exact hrows.sub (by kcj_all) (fun _ _ _ _ => rfl) (fun _ _ => Nat.le_refl _)
          (case he => omega)
          (case hE => exact fun _ _ => by omega)
          case hP => exact (.inr ⟨rfl, v0.toNat, P, f, gvn, sh, fun i h1 h2 => gl3 i h1 h2 (by assumption)⟩)
        · refine Stop.mk ?_
          refine' midS_st (T := fun mm nw => St 2 2 L' news (fun v => ∃ t, v = some (.int v0 t)) (swapP P v0.toNat ld.toNat) (fun _ => eN v0.toNat) (-f) (eN v0.toNat) mm nw) ?F ?N ?d0 ?st ?mono
          (case F => k_asm)
          (case N => k_asm)
          (case d0 => k_upd)
          case st =>
            (refine' St.intro ?dM ?dP ?dA ?dR ?D1 ?D2 ?D3 ?D4 ?D5 ?hf ?hF ?i1 ?i2 ?hb ?hz ?hl ?cA ?hR; (case D1 => k_upd); (case D2 => k_upd); (case D3 => k_upd); (case D4 => k_upd); (case dR => with_reducible assumption); (case D5 => k_upd); (case dM => with_reducible assumption); (case dP => with_reducible assumption); (case dA => with_reducible assumption); (case hf => first | rfl | assumption); (case hF => k_mem); (case i1 => first | exact rfl | exact num1); (case i2 => first | exact rfl | exact den1); (case hb => kcj_all); (case hz => first | (with_reducible assumption) | exact Sz.one); (case hl => first | exact Nat.le_refl _ | omega))
            case cA => exact ⟨_, rfl⟩
            case hR => exact RowsAt.swap hrows (by kcj_all) gvn (by omega) (by omega) xv yv
          case mono => exact fun nw ho hh => ⟨ho, _, _, hsw _ _ _ _ gvn (by omega) (by omega) sh, (by unfold swapP; rw [if_pos rfl]; assumption), hh⟩
        · obtain rfl : ld = v0 := by assumption
          refine Stop.mk ?_
          refine' midS_st (T := fun mm nw => St 2 2 L' news (fun v => ∃ t, v = some (.int ld t)) P (fun _ => eN ld.toNat) f (eN ld.toNat) mm nw) ?F ?N ?d0 ?st ?mono
          (case F => k_asm)
          (case N => k_asm)
          (case d0 => k_upd)
          case st =>
            (refine' St.intro ?dM ?dP ?dA ?dR ?D1 ?D2 ?D3 ?D4 ?D5 ?hf ?hF ?i1 ?i2 ?hb ?hz ?hl ?cA ?hR; (case D1 => k_upd); (case D2 => k_upd); (case D3 => k_upd); (case D4 => k_upd); (case dR => with_reducible assumption); (case D5 => k_upd); (case dM => with_reducible assumption); (case dP => with_reducible assumption); (case dA => with_reducible assumption); (case hf => first | rfl | assumption); (case hF => k_mem); (case i1 => first | exact rfl | exact num1); (case i2 => first | exact rfl | exact den1); (case hb => kcj_all); (case hz => first | (with_reducible assumption) | exact Sz.one); (case hl => first | exact Nat.le_refl _ | omega))
            case cA => exact ⟨_, rfl⟩
            case hR => exact hrows.sub (by kcj_all) (fun _ _ _ _ => rfl) (fun _ _ => Nat.le_refl _)
          case mono => exact fun nw ho hh => ⟨ho, _, _, sh, (by assumption), hh⟩
      · clear hrows n1 n2 n3 n4 n5 n6 n7 n8 b1 b2 b3 b4 b5 w1 w2 w3 w4 w5 w6 w7 w8 w9 w10 w11 hb hF dM dP dA dR hf hvl F2 N2 hlead gl1 gl2 gl3 gl63 gl0 sh
        rintro s3 ⟨h3, tk3, m3, nw3, rfl, F3, N3, oI1, P, f, sh, hnz, R, vs, cR, rest, Fd, sf, uf, kf, oM, oP, oA, oR, vM, vP, vA, hf, dM, dP, dA, dR, ⟨tA, rfl⟩, rfl, ⟨n1, n2, n3, n4, n5, n6, n7, n8, b1, b2, b3, b4, b5⟩, hb, hF, zf, hrows⟩
        obtain ⟨w1, w2, w3, w4, w5, w6, w7, w8, w9, w10, w11⟩ := offI_of oI1
        clear oI1
        have hvl := hrows.1
        obtain ⟨xr, xv, xrow⟩ := hrows.2 (v0).toNat (by omega)
        replace xrow : RowAt 2 rest xr (P (v0).toNat) (eN v0.toNat) := xrow
        obtain ⟨xc, xa0, xs0, xu0, xk0, xa1, xs1, xu1, xk1, xx, xsx, xux, xkx, xh, xm0, xm1, xz0, xz1, xcol, xmx, xzx⟩ := RowAt.openc2 (v := v0.toNat) xrow (by omega)
        k_steps
        refine Stop.mk ?_
        refine' iter_st (J := (fun I2 k mm nw => LCg.Off1 I2 nw ∧ ∃ nw0, nw = (I1, it1) :: nw0 ∧ LCg.Off1 I1 nw0 ∧ St 2 2 L' news (fun v => ∃ t, v = some (.int v0 t)) (elimP P v0.toNat k.toNat) (elimE (eN v0.toNat) v0.toNat k.toNat) (f * P v0.toNat v0.toNat) (6 * (eN v0.toNat) + 1) mm nw0)) (T := fun mm nw => ∃ nw0, nw = (I1, it1) :: nw0 ∧ LCg.Off1 I1 nw0 ∧ St 2 2 L' news (fun v => ∃ t, v = some (.int v0 t)) (elimP P v0.toNat 0) (elimE (eN v0.toNat) v0.toNat 0) (f * P v0.toNat v0.toNat) (6 * (eN v0.toNat) + 1) mm nw0) rfl ?hr ?hab ?F ?N ?hE ?st ?mono ?h2 ?h3x1
        (case hr => assumption)
        (case hab => decide)
        (case F => k_asm)
        (case N => k_asm)
        (case hE => first | passes_own | with_unfolding_all passes_own)
        case st =>
          refine' with_iter ?d1 ?st2
          (case d1 => k_upd)
          case st2 =>
            (refine' St.intro ?dM ?dP ?dA ?dR ?D1 ?D2 ?D3 ?D4 ?D5 ?hf ?hF ?i1 ?i2 ?hb ?hz ?hl ?cA ?hR; (case D1 => k_upd); (case D2 => k_upd); (case D3 => k_upd); (case D4 => k_upd); (case dR => with_reducible assumption); (case D5 => k_upd); (case dM => with_reducible assumption); (case dP => with_reducible assumption); (case dA => with_reducible assumption); (case hf => first | rfl | assumption); (case hF => k_mem); (case i1 => first | exact rfl | exact num1); (case i2 => first | exact rfl | exact den1); (case hb => kcj_all); (case hz => first | (with_reducible assumption) | exact Sz.one); (case hl => first | exact Nat.le_refl _ | omega))
            case cA => exact ⟨_, rfl⟩
            case hR => exact (RowsAt.set (q := fun j => P v0.toNat j / P v0.toNat v0.toNat) (e := 2 * (eN v0.toNat)) hrows (by kcj_all) gvn (RowAt.of2 (by k_mem) (by k_mem) (by with_reducible assumption) (by omega) rfl (by k_mem) (by with_reducible assumption) (by omega) rfl)).sub (fun _ h => h) (fun i _ j _ => elim_start i j) (fun i _ => elimE_start i)
        case mono => exact fun I nw ho hh => ⟨ho, hh⟩
        case h2 =>
          rintro I2 k0 m1 nw1 g3 g4 ⟨oI2, nw2, rfl, oI1, R, vs, cR, rest, Fd, sf, uf, kf, oM, oP, oA, oR, vM, vP, vA, hf, dM, dP, dA, dR, ⟨tA, rfl⟩, rfl, ⟨n1, n2, n3, n4, n5, n6, n7, n8, b1, b2, b3, b4, b5⟩, hb, hF, zf, hrows⟩ it2 t2 h2 tk2 F2 N2
          obtain ⟨oI3, oI4⟩ := oI2
          have oI5 : @Ne Nat I2 I1 := Ne.symm oI3
          replace oI3 : @Ne Nat I1 I2 := oI3
          obtain ⟨w1, w2, w3, w4, w5, w6, w7, w8, w9, w10, w11⟩ := offI_of oI1
          obtain ⟨v1, v2, v3, v4, v5, v6, v7, v8, v9, v10, v11⟩ := offI_of oI4
          clear oI1 oI4
          have hvl := hrows.1
          have gk63 : k0 < 2 ^ 63 := by omega
          have ek1 : (k0 + 1).toNat = k0.toNat + 1 := by omega
          have h2e : 2 * (eN v0.toNat) ≤ 158 := by omega
          obtain ⟨xr, xv, xrow⟩ := hrows.2 (v0).toNat (by omega)
          replace xrow : RowAt 2 rest xr (elimP P v0.toNat k0.toNat v0.toNat) (2 * (eN v0.toNat)) := by have := xrow; rwa [elimE_self] at this
          obtain ⟨xc, xa0, xs0, xu0, xk0, xa1, xs1, xu1, xk1, xx, xsx, xux, xkx, xh, xm0, xm1, xz0, xz1, xcol, xmx, xzx⟩ := RowAt.openc2 (v := v0.toNat) xrow (by omega)
          obtain ⟨yr, yv, yrow⟩ := hrows.2 (k0).toNat (by omega)
          replace yrow : RowAt 2 rest yr (elimP P v0.toNat k0.toNat k0.toNat) (2 * (eN v0.toNat)) := yrow.sub (fun _ h => h) (fun _ _ => rfl) elimE_own
          obtain ⟨yc, ya0, ys0, yu0, yk0, ya1, ys1, yu1, yk1, yx, ysx, yux, ykx, yh, ym0, ym1, yz0, yz1, ycol, ymx, yzx⟩ := RowAt.openc2 (v := v0.toNat) yrow (by omega)
          k_steps
          · refine Stop.mk ?_
            refine' unrEnd_st (T := fun mm nw => ∃ nw0, nw = (I1, it1) :: nw0 ∧ LCg.Off1 I1 nw0 ∧ St 2 2 L' news (fun v => ∃ t, v = some (.int v0 t)) (elimP P v0.toNat (k0 + 1).toNat) (elimE (eN v0.toNat) v0.toNat (k0 + 1).toNat) (f * P v0.toNat v0.toNat) (6 * (eN v0.toNat) + 1) mm nw0) ?F ?N ?d0 ?st ?mono ?off
            (case F => k_asm)
            (case N => k_asm)
            (case d0 => k_upd)
            case st =>
              refine' with_iter ?d1 ?st2
              (case d1 => k_upd)
              case st2 =>
                (refine' St.intro ?dM ?dP ?dA ?dR ?D1 ?D2 ?D3 ?D4 ?D5 ?hf ?hF ?i1 ?i2 ?hb ?hz ?hl ?cA ?hR; (case D1 => k_upd); (case D2 => k_upd); (case D3 => k_upd); (case D4 => k_upd); (case dR => with_reducible assumption); (case D5 => k_upd); (case dM => with_reducible assumption); (case dP => with_reducible assumption); (case dA => with_reducible assumption); (case hf => first | rfl | assumption); (case hF => k_mem); (case i1 => first | exact rfl | exact num1); (case i2 => first | exact rfl | exact den1); (case hb => kcj_all); (case hz => first | (with_reducible assumption) | exact Sz.one); (case hl => first | exact Nat.le_refl _ | omega))
                case cA => exact ⟨_, rfl⟩
                case hR => exact (RowsAt.set (k := k0.toNat) (q := fun j => elimP P v0.toNat k0.toNat k0.toNat j - elimP P v0.toNat k0.toNat k0.toNat v0.toNat * elimP P v0.toNat k0.toNat v0.toNat j) (e := 6 * (eN v0.toNat) + 1) hrows (by kcj_all) (by omega) (RowAt.of2 (by k_mem) (by k_mem) (by with_reducible assumption) (by omega) rfl (by k_mem) (by with_reducible assumption) (by omega) rfl)).sub (fun _ h => h) (fun i _ j _ => by rw [ek1]; exact elim_turn (by omega) i j) (fun i _ => by rw [ek1]; exact elimE_turn (by omega) i)
            case mono => exact fun nw ho ⟨nw0, e, ho1, hh⟩ => ⟨ho, nw0, e, ho1, hh⟩
            case off => exact fun _ _ hh => hh.1
          · have hkv : k0 = v0 := by assumption
            refine Stop.mk ?_
            refine' unrEnd_st (T := fun mm nw => ∃ nw0, nw = (I1, it1) :: nw0 ∧ LCg.Off1 I1 nw0 ∧ St 2 2 L' news (fun v => ∃ t, v = some (.int v0 t)) (elimP P v0.toNat (k0 + 1).toNat) (elimE (eN v0.toNat) v0.toNat (k0 + 1).toNat) (f * P v0.toNat v0.toNat) (6 * (eN v0.toNat) + 1) mm nw0) ?F ?N ?d0 ?st ?mono ?off
            (case F => k_asm)
            (case N => k_asm)
            (case d0 => k_upd)
            case st =>
              refine' with_iter ?d1 ?st2
              (case d1 => k_upd)
              case st2 =>
                (refine' St.intro ?dM ?dP ?dA ?dR ?D1 ?D2 ?D3 ?D4 ?D5 ?hf ?hF ?i1 ?i2 ?hb ?hz ?hl ?cA ?hR; (case D1 => k_upd); (case D2 => k_upd); (case D3 => k_upd); (case D4 => k_upd); (case dR => with_reducible assumption); (case D5 => k_upd); (case dM => with_reducible assumption); (case dP => with_reducible assumption); (case dA => with_reducible assumption); (case hf => first | rfl | assumption); (case hF => k_mem); (case i1 => first | exact rfl | exact num1); (case i2 => first | exact rfl | exact den1); (case hb => kcj_all); (case hz => first | (with_reducible assumption) | exact Sz.one); (case hl => first | exact Nat.le_refl _ | omega))
                case cA => exact ⟨_, rfl⟩
                case hR => exact hrows.sub (by kcj_all) (fun i _ j _ => by rw [ek1, hkv]; exact elim_at i j) (fun i _ => by rw [ek1, hkv]; exact elimE_at i)
            case mono => exact fun nw ho ⟨nw0, e, ho1, hh⟩ => ⟨ho, nw0, e, ho1, hh⟩
            case off => exact fun _ _ hh => hh.1
        case h3x1 =>
          rintro I2 m1 nw1 ⟨oI2, nw2, rfl, oI1, R, vs, cR, rest, Fd, sf, uf, kf, oM, oP, oA, oR, vM, vP, vA, hf, dM, dP, dA, dR, cA, rfl, ⟨n1, n2, n3, n4, n5, n6, n7, n8, b1, b2, b3, b4, b5⟩, hb, hF, zf, hrows⟩
          obtain ⟨oI3, oI4⟩ := oI2
          have oI5 : @Ne Nat I2 I1 := Ne.symm oI3
          replace oI3 : @Ne Nat I1 I2 := oI3
          obtain ⟨w1, w2, w3, w4, w5, w6, w7, w8, w9, w10, w11⟩ := offI_of oI1
          obtain ⟨v1, v2, v3, v4, v5, v6, v7, v8, v9, v10, v11⟩ := offI_of oI4
          clear oI1 oI4
          have hvl := hrows.1
          have ev1 : (v0 + 1).toNat = v0.toNat + 1 := by omega
          have eE : eN (v0 + 1).toNat = 6 * (eN v0.toNat) + 1 := by rw [ev1]; rfl
          refine TurnsC.zero (fun h2 tk2 F2 N2 => ?_)
          k_steps
          refine Stop.mk ?_
          refine' unrEnd_st (T := fun mm nw => St 2 2 L' news (fun _ => True) (elimP P v0.toNat 2) (fun _ => eN (v0 + 1).toNat) (f * P v0.toNat v0.toNat) (eN (v0 + 1).toNat) mm nw) ?F ?N ?d0 ?st ?mono ?off
          (case F => k_asm)
          (case N => k_asm)
          (case d0 => k_upd)
          case st =>
            (refine' St.intro ?dM ?dP ?dA ?dR ?D1 ?D2 ?D3 ?D4 ?D5 ?hf ?hF ?i1 ?i2 ?hb ?hz ?hl ?cA ?hR; (case D1 => k_upd); (case D2 => k_upd); (case D3 => k_upd); (case D4 => k_upd); (case dR => with_reducible assumption); (case D5 => k_upd); (case dM => with_reducible assumption); (case dP => with_reducible assumption); (case dA => with_reducible assumption); (case hf => first | rfl | assumption); (case hF => k_mem); (case i1 => first | exact rfl | exact num1); (case i2 => first | exact rfl | exact den1); (case hb => kcj_all); (case hz => first | (with_reducible assumption) | exact Sz.one); (case hl => first | exact Nat.le_refl _ | omega))
            case cA => exact trivial
            case hR => exact hrows.sub (by kcj_all) (fun _ _ _ _ => rfl) (fun _ _ => by rw [eE]; exact elimE_le)
          case mono => exact fun nw ho hh => ⟨ho, _, _, (by rw [ev1]; exact hel _ _ _ gvn sh hnz), hh⟩
          case off => exact fun _ _ hh => hh.1
  case h3x3 =>
    rintro I m1 nw1 ⟨oI, P, f, sh, R, vs, cR, rest, Fd, sf, uf, kf, oM, oP, oA, oR, vM, vP, vA, hf, dM, dP, dA, dR, cA, rfl, ⟨n1, n2, n3, n4, n5, n6, n7, n8, b1, b2, b3, b4, b5⟩, hb, hF, zf, hrows⟩
    obtain ⟨w1, w2, w3, w4, w5, w6, w7, w8, w9, w10, w11⟩ := offI_of oI
    have hvl := hrows.1
    refine TurnsC.zero (fun h2 tk2 F2 N2 => ?_)
    k_steps
    refine' taken_ret (q := f) (P := P) hret ?F ?N ?hs ?hT ?hR ?hF ?i1 ?i2 ?hz ?he ?hrows ?hE ?hP
    (case F => k_asm)
    (case N => k_asm)
    (case hs => kcj_all)
    (case hT => k_mem)
    (case hR => k_mem)
    (case hF => k_mem)
    (case i1 => exact rfl)
    (case i2 => exact rfl)
    (case hz => exact zf)
    case hrows => exact hrows.sub (by kcj_all) (fun _ _ _ _ => rfl) (fun _ _ => Nat.le_refl _)
    (case he => decide)
    (case hE => exact fun _ _ => by decide)
    case hP => exact (.inl sh)
end Mine
end
section
open PySem PySem.W PyProof.Rows PySem.Calls PySem.Spec PyProof.V
set_option Elab.async false
set_option maxRecDepth 100000
set_option maxHeartbeats 8000000
namespace Mine
def MatAt (n m : Nat) (led : List (Addr × Obj)) (D : Addr) (P : Nat → Nat → Rat) (e : Nat) : Prop := ∃ vs c, (D, listObj vs c) ∈ led ∧ RowsAt n m led vs P (fun _ => e)
theorem MatAt.sub {n m : Nat} {led led' : List (Addr × Obj)} {D : Addr} {P : Nat → Nat → Rat} {e : Nat} (h : MatAt n m led D P e) (hs : ∀ q ∈ led, q ∈ led') : MatAt n m led' D P e :=
  let ⟨vs, c, a, b⟩ := h
  ⟨vs, c, hs _ a, b.sub hs (fun _ _ _ _ => rfl) fun _ _ => Nat.le_refl _⟩
def m22 (a b c d : Rat) : Nat → Nat → Rat
  | 0, 0 => a
  | 0, _ + 1 => b
  | _ + 1, 0 => c
  | _ + 1, _ + 1 => d
def r3 (a b c : Rat) : Nat → Rat
  | 0 => a
  | 1 => b
  | _ + 2 => c
def m33 (a b c d e f g h i : Rat) : Nat → Nat → Rat
  | 0 => r3 a b c
  | 1 => r3 d e f
  | _ + 2 => r3 g h i
theorem RowAt.of3 {led : List (Addr × Obj)} {r : Addr} {p : Nat → Rat} {e c : Nat} {a0 : Addr} {s0 u0 : Tok} {k0 e0 : Nat} {q0 : Rat} {a1 : Addr} {s1 u1 : Tok} {k1 e1 : Nat} {q1 : Rat} {a2 : Addr} {s2 u2 : Tok} {k2 e2 : Nat} {q2 : Rat}
    (h : (r, listObj [.ref a0, .ref a1, .ref a2] c) ∈ led) (m0 : (a0, tup2 q0.num s0 q0.den u0 k0) ∈ led) (z0 : Sz e0 q0) (l0 : e0 ≤ e) (w0 : q0 = p 0) (m1 : (a1, tup2 q1.num s1 q1.den u1 k1) ∈ led) (z1 : Sz e1 q1) (l1 : e1 ≤ e) (w1 : q1 = p 1) (m2 : (a2, tup2 q2.num s2 q2.den u2 k2) ∈ led) (z2 : Sz e2 q2) (l2 : e2 ≤ e) (w2 : q2 = p 2) : RowAt 3 led r p e := by
  subst w0 w1 w2
  refine ⟨[.ref a0, .ref a1, .ref a2], c, h, rfl, fun j hj => ?_⟩
  match j, hj with
  | 0, _ => exact ⟨a0, s0, u0, k0, rfl, m0, z0.mono l0⟩
  | 1, _ => exact ⟨a1, s1, u1, k1, rfl, m1, z1.mono l1⟩
  | 2, _ => exact ⟨a2, s2, u2, k2, rfl, m2, z2.mono l2⟩
theorem RowAt.open3 {led : List (Addr × Obj)} {r : Addr} {p : Nat → Rat} {e : Nat} (h : RowAt 3 led r p e) : ∃ (c : Nat) (a0 : Addr) (s0 u0 : Tok) (k0 : Nat) (a1 : Addr) (s1 u1 : Tok) (k1 : Nat) (a2 : Addr) (s2 u2 : Tok) (k2 : Nat),
    (r, listObj [.ref a0, .ref a1, .ref a2] c) ∈ led ∧ (a0, tup2 (p 0).num s0 (p 0).den u0 k0) ∈ led ∧ (a1, tup2 (p 1).num s1 (p 1).den u1 k1) ∈ led ∧ (a2, tup2 (p 2).num s2 (p 2).den u2 k2) ∈ led ∧ Sz e (p 0) ∧ Sz e (p 1) ∧ Sz e (p 2) := by
  obtain ⟨as, c, h1, h2, h3⟩ := h
  obtain ⟨a0, s0, u0, k0, g0, m0, z0⟩ := h3 0 (by decide)
  obtain ⟨a1, s1, u1, k1, g1, m1, z1⟩ := h3 1 (by decide)
  obtain ⟨a2, s2, u2, k2, g2, m2, z2⟩ := h3 2 (by decide)
  match as, h2, h1, g0, g1, g2 with
  | [x0, x1, x2], _, h1, g0, g1, g2 =>
    obtain rfl : x0 = .ref a0 := Option.some.inj g0
    obtain rfl : x1 = .ref a1 := Option.some.inj g1
    obtain rfl : x2 = .ref a2 := Option.some.inj g2
    exact ⟨c, a0, s0, u0, k0, a1, s1, u1, k1, a2, s2, u2, k2, h1, m0, m1, m2, z0, z1, z2⟩
section
variable {w : World} {mean : ExcName → Option Value} {mg mb : Str → Option Value} {news : List (Addr × Obj)}
  {dp un : Nat} {gd : Option (List Code)} {cn : Str} {cs : Scope} {a : Addr} {ccd : Value} {cl : List (Str × Addr)} {outer : List Env} {A₀ : Around} {base h₀ : Heap} {L : Addr} {m : Str → Option Value} {s : Shared} {Q E : Value → Shared → Prop}
theorem matrix2_law {P S : Addr} {k : Int} {tk : Tok} {c0 c2 : Nat} {vs : List Value} {ns : List Int} {t1 : Tok} {pre rest : List (Addr × Obj)}
    (B : Below A₀ base outer h₀) (F : Fr h₀ L s.heap m) (X : (hd.heap_39 w.params).In h₀) (N : News h₀ L s.heap ((P, pressObj S k tk c0) :: (pre ++ rest))) (T : Top hd.view_39 LO mean mg mb h₀) (hk : cs.kind = .function) (hd : dp + 5 < recursionLimit) (hu : un + 8 * 5 < cLine) (G : Great mg)
    (hS : (S, listObj vs c2) ∈ pre) (hv : IntsAre vs ns) (hl : ns.length ≤ 40) (hk0 : 0 ≤ k) (hk1 : k ≤ 100) (hpre : ∀ q ∈ pre, q.1 ≠ P) (hoff : ∀ p ∈ rest, ∀ q ∈ (P, pressObj S k tk c0) :: pre, q.1 ≠ p.1)
    (ret : ∀ D k' t' rest' Pm h' tk', Fr h₀ L h' m → News h₀ L h' ((P, pressObj S k' t' c0) :: (pre ++ rest')) → 0 ≤ k' → k' ≤ k + 20 → (∀ p ∈ rest', ∀ q ∈ (P, pressObj S k' t' c0) :: pre, q.1 ≠ p.1) → (∀ p ∈ rest, p ∈ rest') →
      MatAt 2 2 rest' D Pm 2 → (∀ i j, i < 2 → j < 2 → Ent (Pm i j)) → Q (.ref D) { s with heap := h', toks := tk' }) :
    wpAny (model PR w) (ktrTop dp un gd cn cs L a ccd cl outer) (call (.ref 136) [.ref P, .int 2 t1]) Q E s := by
  have hSP : @Ne Nat S P := hpre _ hS
  refine matrix2_does w mean mg mb G (pre ++ rest) P S k tk c0 vs ns c2 t1 (List.mem_append_left _ hS) hv hl hk0 hk1 (fun p hp => ?_) hSP dp un gd cn cs a ccd cl outer A₀ base h₀ L m s Q E B F X N T hk hd hu ?_
  · rcases List.mem_append.mp hp with hp | hp
    · exact hpre p hp
    · exact Ne.symm (hoff p hp _ (.head _))
  · rintro r news' h' tk' F' N' ⟨D, c, r1, c1, r2, c2, a11, p11, s11, u11, k11, a12, p12, s12, u12, k12, a21, p21, s21, u21, k21, a22, p22, s22, u22, k22, k', t', rfl, rfl, hk0', hk1', ap, e11, e12, e21, e22⟩
    refine ret D k' t' (_ ++ rest) (m22 p11 p12 p21 p22) h' tk' F' (fun p hp => N' p ?_) hk0' hk1' (fun p hp q hq => ?_) (fun p hp => List.mem_append_right _ hp) ⟨_, c, List.mem_append_left _ (.head _), RowsAt.sub (RowsAt.of2 (led := [(D, listObj [.ref r1, .ref r2] c), (r1, listObj [.ref a11, .ref a12] c1), (r2, listObj [.ref a21, .ref a22] c2), (a11, tup2 p11.num s11 p11.den u11 k11), (a12, tup2 p12.num s12 p12.den u12 k12), (a21, tup2 p21.num s21 p21.den u21 k21), (a22, tup2 p22.num s22 p22.den u22 k22)]) (RowAt.of2 (.tail _ (.head _)) (.tail _ (.tail _ (.tail _ (.head _)))) e11.1 (Nat.le_refl _) rfl (.tail _ (.tail _ (.tail _ (.tail _ (.head _))))) e12.1 (Nat.le_refl _) rfl) (RowAt.of2 (.tail _ (.tail _ (.head _))) (.tail _ (.tail _ (.tail _ (.tail _ (.tail _ (.head _)))))) e21.1 (Nat.le_refl _) rfl (.tail _ (.tail _ (.tail _ (.tail _ (.tail _ (.tail _ (.head _))))))) e22.1 (Nat.le_refl _) rfl)) (fun q hq => List.mem_append_left _ hq) (fun _ _ _ _ => rfl) (fun _ _ => Nat.le_refl _)⟩ (fun i j hi hj => ?_)
    · rcases List.mem_cons.mp hp with rfl | hp
      · exact .head _
      · refine .tail _ ?_
        rcases List.mem_append.mp hp with hp | hp
        · exact List.mem_append_right _ (List.mem_append_left _ hp)
        · rcases List.mem_append.mp hp with hp | hp
          · exact List.mem_append_left _ hp
          · exact List.mem_append_right _ (List.mem_append_right _ hp)
    · rcases List.mem_append.mp hp with hp | hp
      · refine ap p hp q ?_
        rcases List.mem_cons.mp hq with rfl | hq
        · exact .head _
        · exact .tail _ (List.mem_append_left _ hq)
      · rcases List.mem_cons.mp hq with rfl | hq
        · exact hoff p hp (P, pressObj S k tk c0) (.head _)
        · exact hoff p hp q (.tail _ hq)
    · match i, j, hi, hj with
      | 0, 0, _, _ => exact e11
      | 0, 1, _, _ => exact e12
      | 1, 0, _, _ => exact e21
      | 1, 1, _, _ => exact e22
theorem matrix3_law {P S : Addr} {k : Int} {tk : Tok} {c0 c2 : Nat} {vs : List Value} {ns : List Int} {t1 : Tok} {pre rest : List (Addr × Obj)}
    (B : Below A₀ base outer h₀) (F : Fr h₀ L s.heap m) (X : (hd.heap_39 w.params).In h₀) (N : News h₀ L s.heap ((P, pressObj S k tk c0) :: (pre ++ rest))) (T : Top hd.view_39 LO mean mg mb h₀) (hk : cs.kind = .function) (hd : dp + 5 < recursionLimit) (hu : un + 8 * 5 < cLine) (G : Great mg)
    (hS : (S, listObj vs c2) ∈ pre) (hv : IntsAre vs ns) (hl : ns.length ≤ 40) (hk0 : 0 ≤ k) (hk1 : k ≤ 100) (hpre : ∀ q ∈ pre, q.1 ≠ P) (hoff : ∀ p ∈ rest, ∀ q ∈ (P, pressObj S k tk c0) :: pre, q.1 ≠ p.1)
    (ret : ∀ D k' t' rest' Pm h' tk', Fr h₀ L h' m → News h₀ L h' ((P, pressObj S k' t' c0) :: (pre ++ rest')) → 0 ≤ k' → k' ≤ k + 20 → (∀ p ∈ rest', ∀ q ∈ (P, pressObj S k' t' c0) :: pre, q.1 ≠ p.1) → (∀ p ∈ rest, p ∈ rest') →
      MatAt 3 3 rest' D Pm 2 → (∀ i j, i < 3 → j < 3 → Ent (Pm i j)) → Q (.ref D) { s with heap := h', toks := tk' }) :
    wpAny (model PR w) (ktrTop dp un gd cn cs L a ccd cl outer) (call (.ref 136) [.ref P, .int 3 t1]) Q E s := by
  have hSP : @Ne Nat S P := hpre _ hS
  refine matrix3_does w mean mg mb G (pre ++ rest) P S k tk c0 vs ns c2 t1 (List.mem_append_left _ hS) hv hl hk0 hk1 (fun p hp => ?_) hSP dp un gd cn cs a ccd cl outer A₀ base h₀ L m s Q E B F X N T hk hd hu ?_
  · rcases List.mem_append.mp hp with hp | hp
    · exact hpre p hp
    · exact Ne.symm (hoff p hp _ (.head _))
  · rintro r news' h' tk' F' N' ⟨D, c, r1, c1, r2, c2, r3, c3, a11, p11, s11, u11, k11, a12, p12, s12, u12, k12, a13, p13, s13, u13, k13, a21, p21, s21, u21, k21, a22, p22, s22, u22, k22, a23, p23, s23, u23, k23, a31, p31, s31, u31, k31, a32, p32, s32, u32, k32, a33, p33, s33, u33, k33, k', t', rfl, rfl, hk0', hk1', ap, e11, e12, e13, e21, e22, e23, e31, e32, e33⟩
    refine ret D k' t' (_ ++ rest) (m33 p11 p12 p13 p21 p22 p23 p31 p32 p33) h' tk' F' (fun p hp => N' p ?_) hk0' hk1' (fun p hp q hq => ?_) (fun p hp => List.mem_append_right _ hp) ⟨_, c, List.mem_append_left _ (.head _), RowsAt.sub (RowsAt.of3 (led := [(D, listObj [.ref r1, .ref r2, .ref r3] c), (r1, listObj [.ref a11, .ref a12, .ref a13] c1), (r2, listObj [.ref a21, .ref a22, .ref a23] c2), (r3, listObj [.ref a31, .ref a32, .ref a33] c3), (a11, tup2 p11.num s11 p11.den u11 k11), (a12, tup2 p12.num s12 p12.den u12 k12), (a13, tup2 p13.num s13 p13.den u13 k13), (a21, tup2 p21.num s21 p21.den u21 k21), (a22, tup2 p22.num s22 p22.den u22 k22), (a23, tup2 p23.num s23 p23.den u23 k23), (a31, tup2 p31.num s31 p31.den u31 k31), (a32, tup2 p32.num s32 p32.den u32 k32), (a33, tup2 p33.num s33 p33.den u33 k33)]) (RowAt.of3 (.tail _ (.head _)) (.tail _ (.tail _ (.tail _ (.tail _ (.head _))))) e11.1 (Nat.le_refl _) rfl (.tail _ (.tail _ (.tail _ (.tail _ (.tail _ (.head _)))))) e12.1 (Nat.le_refl _) rfl (.tail _ (.tail _ (.tail _ (.tail _ (.tail _ (.tail _ (.head _))))))) e13.1 (Nat.le_refl _) rfl) (RowAt.of3 (.tail _ (.tail _ (.head _))) (.tail _ (.tail _ (.tail _ (.tail _ (.tail _ (.tail _ (.tail _ (.head _)))))))) e21.1 (Nat.le_refl _) rfl (.tail _ (.tail _ (.tail _ (.tail _ (.tail _ (.tail _ (.tail _ (.tail _ (.head _))))))))) e22.1 (Nat.le_refl _) rfl (.tail _ (.tail _ (.tail _ (.tail _ (.tail _ (.tail _ (.tail _ (.tail _ (.tail _ (.head _)))))))))) e23.1 (Nat.le_refl _) rfl) (RowAt.of3 (.tail _ (.tail _ (.tail _ (.head _)))) (.tail _ (.tail _ (.tail _ (.tail _ (.tail _ (.tail _ (.tail _ (.tail _ (.tail _ (.tail _ (.head _))))))))))) e31.1 (Nat.le_refl _) rfl (.tail _ (.tail _ (.tail _ (.tail _ (.tail _ (.tail _ (.tail _ (.tail _ (.tail _ (.tail _ (.tail _ (.head _)))))))))))) e32.1 (Nat.le_refl _) rfl (.tail _ (.tail _ (.tail _ (.tail _ (.tail _ (.tail _ (.tail _ (.tail _ (.tail _ (.tail _ (.tail _ (.tail _ (.head _))))))))))))) e33.1 (Nat.le_refl _) rfl)) (fun q hq => List.mem_append_left _ hq) (fun _ _ _ _ => rfl) (fun _ _ => Nat.le_refl _)⟩ (fun i j hi hj => ?_)
    · rcases List.mem_cons.mp hp with rfl | hp
      · exact .head _
      · refine .tail _ ?_
        rcases List.mem_append.mp hp with hp | hp
        · exact List.mem_append_right _ (List.mem_append_left _ hp)
        · rcases List.mem_append.mp hp with hp | hp
          · exact List.mem_append_left _ hp
          · exact List.mem_append_right _ (List.mem_append_right _ hp)
    · rcases List.mem_append.mp hp with hp | hp
      · refine ap p hp q ?_
        rcases List.mem_cons.mp hq with rfl | hq
        · exact .head _
        · exact .tail _ (List.mem_append_left _ hq)
      · rcases List.mem_cons.mp hq with rfl | hq
        · exact hoff p hp (P, pressObj S k tk c0) (.head _)
        · exact hoff p hp q (.tail _ hq)
    · match i, j, hi, hj with
      | 0, 0, _, _ => exact e11
      | 0, 1, _, _ => exact e12
      | 0, 2, _, _ => exact e13
      | 1, 0, _, _ => exact e21
      | 1, 1, _, _ => exact e22
      | 1, 2, _, _ => exact e23
      | 2, 0, _, _ => exact e31
      | 2, 1, _, _ => exact e32
      | 2, 2, _, _ => exact e33
end
inductive Grow (tl rest : List (Addr × Obj)) : List (Addr × Obj) → List (Addr × Obj) → Prop
  | here : Grow tl rest rest (tl ++ rest)
  | cons {a l l'} : Grow tl rest l l' → Grow tl rest (a :: l) (a :: l')
theorem Grow.mem {tl rest : List (Addr × Obj)} : ∀ {l l' : List (Addr × Obj)}, Grow tl rest l l' → ∀ p ∈ l', p ∈ tl ++ l
  | _, _, .here => fun _ h => h
  | _, _, .cons g => fun p hp => by
    rcases List.mem_cons.mp hp with rfl | hp
    · exact List.mem_append_right _ (.head _)
    · rcases List.mem_append.mp (g.mem p hp) with h | h
      · exact List.mem_append_left _ h
      · exact List.mem_append_right _ (.tail _ h)
theorem Grow.news {h₀ h : Heap} {L : Addr} {tl rest l l' : List (Addr × Obj)} (N : News h₀ L h (tl ++ l)) (g : Grow tl rest l l') : News h₀ L h l' := fun p hp => N p (g.mem p hp)
def MidL (s : Shared) (h₀ : Heap) (L : Addr) (J : (Str → Option Value) → List (Addr × Obj) → Prop) (s' : Shared) : Prop :=
  ∃ h tk m nw, s' = { s with heap := h, toks := tk } ∧ Fr h₀ L h m ∧ News h₀ L h nw ∧ J m nw
theorem MidL.intro {s : Shared} {h₀ : Heap} {L : Addr} {J : (Str → Option Value) → List (Addr × Obj) → Prop} {h : Heap} {tk : Nat} {m : Str → Option Value} {all : List (Addr × Obj)}
    (F : Fr h₀ L h m) (N : News h₀ L h all) (hj : ∃ small, (∀ p ∈ small, p ∈ all) ∧ J m small) : MidL s h₀ L J { s with heap := h, toks := tk } :=
  let ⟨small, hs, hj⟩ := hj
  ⟨h, tk, m, small, rfl, F, fun p hp => N p (hs p hp), hj⟩
end Mine
end
section
open PySem PySem.W PyProof.Rows PySem.Calls PySem.Spec PyProof.V
set_option Elab.async false
set_option maxRecDepth 100000
set_option maxHeartbeats 8000000
namespace Mine
theorem great_of {mg : Str → Option Value} {h : Heap} {n : Int} (V : LooseAre [(PySem.Str.ofString "GREATEST", WData.int n)] mg h) (hn : ((2 ^ 2300 : Nat) : Int) ≤ n) : Great mg := by
  obtain ⟨v, h1, h2⟩ := V.val _ (.head _)
  cases h2
  exact ⟨n, _, h1, hn⟩
theorem execs_cutL {prog : Program} {w : World} {A : Around} {E : Value → Shared → Prop} {s : Shared} {env : Env} {st : Stmt} {rest : List Stmt} {Q : Flow → Shared → Prop} {h₀ : Heap} {L : Addr} {m : Str → Option Value} (J : Addr → (Str → Option Value) → List (Addr × Obj) → Prop) (_F : Fr h₀ L s.heap m)
    (h1 : wpAny (model prog w) A (exec st env) (fun f s' => match f with | .next => Stop (MidL s h₀ L (J L) s') | f => Q f s') E s)
    (h2 : ∀ h tk m nw, Fr h₀ L h m → News h₀ L h nw → J L m nw → wpAny (model prog w) A (execs rest env) Q E { s with heap := h, toks := tk }) : wpAny (model prog w) A (execs (st :: rest) env) Q E s :=
  execs_cut (MidL s h₀ L (J L)) h1 fun s' ⟨h, tk, m, nw, e, F, N, j⟩ => e ▸ h2 h tk m nw F N j
def JB (K : Int) (Z : (Str → Option Value) → Option Value → List (Addr × Obj) → Prop) (L : Addr) (mm : Str → Option Value) (nw : List (Addr × Obj)) : Prop :=
  ∃ (P S : Addr) (vs : List Value) (ns : List Int) (k : Int) (t : Tok) (c c2 : Nat) (o1 o2 o3 o4 o5 o6 o7 : Obj) (v1 v2 v3 v4 v5 v6 v7 : Option Value) (rest : List (Addr × Obj)),
    o1.data = .cell v1 ∧ o2.data = .cell v2 ∧ o3.data = .cell v3 ∧ o4.data = .cell v4 ∧ o5.data = .cell v5 ∧ o6.data = .cell v6 ∧ o7.data = .cell v7 ∧ v1 = some (.ref P) ∧ nw = (P, pressObj S k t c) :: (S, listObj vs c2) :: (L + 1 + 1 + 1 + 1 + 1 + 1 + 1, o7) :: (L + 1 + 1 + 1 + 1 + 1 + 1, o6) :: (L + 1 + 1 + 1 + 1 + 1, o5) :: (L + 1 + 1 + 1 + 1, o4) :: (L + 1 + 1 + 1, o3) :: (L + 1 + 1, o2) :: (L + 1, o1) :: rest ∧ IntsAre vs ns ∧ ns.length ≤ 40 ∧ 0 ≤ k ∧ k ≤ K ∧
    @Ne Nat S P ∧ @Ne Nat (L + 1) P ∧ @Ne Nat (L + 1 + 1) P ∧ @Ne Nat (L + 1 + 1 + 1) P ∧ @Ne Nat (L + 1 + 1 + 1 + 1) P ∧ @Ne Nat (L + 1 + 1 + 1 + 1 + 1) P ∧ @Ne Nat (L + 1 + 1 + 1 + 1 + 1 + 1) P ∧ @Ne Nat (L + 1 + 1 + 1 + 1 + 1 + 1 + 1) P ∧ @Ne Nat P (L + 1) ∧ @Ne Nat P (L + 1 + 1) ∧ @Ne Nat P (L + 1 + 1 + 1) ∧ @Ne Nat P (L + 1 + 1 + 1 + 1) ∧ @Ne Nat P (L + 1 + 1 + 1 + 1 + 1) ∧ @Ne Nat P (L + 1 + 1 + 1 + 1 + 1 + 1) ∧ @Ne Nat P (L + 1 + 1 + 1 + 1 + 1 + 1 + 1) ∧ @Ne Nat S (L + 1) ∧ @Ne Nat S (L + 1 + 1) ∧ @Ne Nat S (L + 1 + 1 + 1) ∧ @Ne Nat S (L + 1 + 1 + 1 + 1) ∧ @Ne Nat S (L + 1 + 1 + 1 + 1 + 1) ∧ @Ne Nat S (L + 1 + 1 + 1 + 1 + 1 + 1) ∧ @Ne Nat S (L + 1 + 1 + 1 + 1 + 1 + 1 + 1) ∧ (∀ p ∈ rest, p.1 ≠ L + 1) ∧ (∀ p ∈ rest, p.1 ≠ L + 1 + 1) ∧ (∀ p ∈ rest, p.1 ≠ L + 1 + 1 + 1) ∧ (∀ p ∈ rest, p.1 ≠ L + 1 + 1 + 1 + 1) ∧ (∀ p ∈ rest, p.1 ≠ L + 1 + 1 + 1 + 1 + 1) ∧ (∀ p ∈ rest, p.1 ≠ L + 1 + 1 + 1 + 1 + 1 + 1) ∧ (∀ p ∈ rest, p.1 ≠ L + 1 + 1 + 1 + 1 + 1 + 1 + 1) ∧ (∀ p ∈ rest, p.1 ≠ S) ∧ (∀ p ∈ rest, p.1 ≠ P) ∧ Z mm v2 rest
theorem JB.intro {K : Int} {Z : (Str → Option Value) → Option Value → List (Addr × Obj) → Prop} {L P S : Addr} {vs : List Value} {ns : List Int} {k : Int} {t : Tok} {c e2 : Nat} {o1 o2 o3 o4 o5 o6 o7 : Obj} {v1 v2 v3 v4 v5 v6 v7 : Option Value} {all l1 l2 l3 l4 l5 l6 l7 l8 rest : List (Addr × Obj)} {mm : Str → Option Value}
    (D1 : Del P (pressObj S k t c) all l1) (D2 : Del S (listObj vs e2) l1 l2) (D3 : Del (L + 1 + 1 + 1 + 1 + 1 + 1 + 1) o7 l2 l3) (D4 : Del (L + 1 + 1 + 1 + 1 + 1 + 1) o6 l3 l4) (D5 : Del (L + 1 + 1 + 1 + 1 + 1) o5 l4 l5) (D6 : Del (L + 1 + 1 + 1 + 1) o4 l5 l6) (D7 : Del (L + 1 + 1 + 1) o3 l6 l7) (D8 : Del (L + 1 + 1) o2 l7 l8) (D9 : Del (L + 1) o1 l8 rest) (d1 : o1.data = .cell v1) (d2 : o2.data = .cell v2) (d3 : o3.data = .cell v3) (d4 : o4.data = .cell v4) (d5 : o5.data = .cell v5) (d6 : o6.data = .cell v6) (d7 : o7.data = .cell v7) (hv1 : v1 = some (.ref P)) (hv : IntsAre vs ns) (hl : ns.length ≤ 40) (hk0 : 0 ≤ k) (hk1 : k ≤ K) (z : Z mm v2 rest) :
    ∃ small, (∀ p ∈ small, p ∈ all) ∧ JB K Z L mm small := by
  obtain ⟨a1, b1, c1⟩ := D1.facts
  obtain ⟨a2, b2, c2⟩ := D2.facts
  obtain ⟨a3, b3, c3⟩ := D3.facts
  obtain ⟨a4, b4, c4⟩ := D4.facts
  obtain ⟨a5, b5, c5⟩ := D5.facts
  obtain ⟨a6, b6, c6⟩ := D6.facts
  obtain ⟨a7, b7, c7⟩ := D7.facts
  obtain ⟨a8, b8, c8⟩ := D8.facts
  obtain ⟨a9, b9, c9⟩ := D9.facts
  refine ⟨(P, pressObj S k t c) :: (S, listObj vs e2) :: (L + 1 + 1 + 1 + 1 + 1 + 1 + 1, o7) :: (L + 1 + 1 + 1 + 1 + 1 + 1, o6) :: (L + 1 + 1 + 1 + 1 + 1, o5) :: (L + 1 + 1 + 1 + 1, o4) :: (L + 1 + 1 + 1, o3) :: (L + 1 + 1, o2) :: (L + 1, o1) :: rest, fun p hp => ?_, P, S, vs, ns, k, t, c, e2, o1, o2, o3, o4, o5, o6, o7, v1, v2, v3, v4, v5, v6, v7, rest, d1, d2, d3, d4, d5, d6, d7, hv1, rfl, hv, hl, hk0, hk1, c1 _ a2, c1 _ (b2 _ (b3 _ (b4 _ (b5 _ (b6 _ (b7 _ (b8 _ a9))))))), c1 _ (b2 _ (b3 _ (b4 _ (b5 _ (b6 _ (b7 _ a8)))))), c1 _ (b2 _ (b3 _ (b4 _ (b5 _ (b6 _ a7))))), c1 _ (b2 _ (b3 _ (b4 _ (b5 _ a6)))), c1 _ (b2 _ (b3 _ (b4 _ a5))), c1 _ (b2 _ (b3 _ a4)), c1 _ (b2 _ a3), Ne.symm (c1 _ (b2 _ (b3 _ (b4 _ (b5 _ (b6 _ (b7 _ (b8 _ a9)))))))), Ne.symm (c1 _ (b2 _ (b3 _ (b4 _ (b5 _ (b6 _ (b7 _ a8))))))), Ne.symm (c1 _ (b2 _ (b3 _ (b4 _ (b5 _ (b6 _ a7)))))), Ne.symm (c1 _ (b2 _ (b3 _ (b4 _ (b5 _ a6))))), Ne.symm (c1 _ (b2 _ (b3 _ (b4 _ a5)))), Ne.symm (c1 _ (b2 _ (b3 _ a4))), Ne.symm (c1 _ (b2 _ a3)), Ne.symm (c2 _ (b3 _ (b4 _ (b5 _ (b6 _ (b7 _ (b8 _ a9))))))), Ne.symm (c2 _ (b3 _ (b4 _ (b5 _ (b6 _ (b7 _ a8)))))), Ne.symm (c2 _ (b3 _ (b4 _ (b5 _ (b6 _ a7))))), Ne.symm (c2 _ (b3 _ (b4 _ (b5 _ a6)))), Ne.symm (c2 _ (b3 _ (b4 _ a5))), Ne.symm (c2 _ (b3 _ a4)), Ne.symm (c2 _ a3), fun p hp => c9 _ hp, fun p hp => c8 _ (b9 _ hp), fun p hp => c7 _ (b8 _ (b9 _ hp)), fun p hp => c6 _ (b7 _ (b8 _ (b9 _ hp))), fun p hp => c5 _ (b6 _ (b7 _ (b8 _ (b9 _ hp)))), fun p hp => c4 _ (b5 _ (b6 _ (b7 _ (b8 _ (b9 _ hp))))), fun p hp => c3 _ (b4 _ (b5 _ (b6 _ (b7 _ (b8 _ (b9 _ hp)))))), fun p hp => c2 _ (b3 _ (b4 _ (b5 _ (b6 _ (b7 _ (b8 _ (b9 _ hp))))))), fun p hp => c1 _ (b2 _ (b3 _ (b4 _ (b5 _ (b6 _ (b7 _ (b8 _ (b9 _ hp)))))))), z⟩
  ·
    rcases List.mem_cons.mp hp with rfl | hp; exact a1
    rcases List.mem_cons.mp hp with rfl | hp; exact (b1 _ a2)
    rcases List.mem_cons.mp hp with rfl | hp; exact (b1 _ (b2 _ a3))
    rcases List.mem_cons.mp hp with rfl | hp; exact (b1 _ (b2 _ (b3 _ a4)))
    rcases List.mem_cons.mp hp with rfl | hp; exact (b1 _ (b2 _ (b3 _ (b4 _ a5))))
    rcases List.mem_cons.mp hp with rfl | hp; exact (b1 _ (b2 _ (b3 _ (b4 _ (b5 _ a6)))))
    rcases List.mem_cons.mp hp with rfl | hp; exact (b1 _ (b2 _ (b3 _ (b4 _ (b5 _ (b6 _ a7))))))
    rcases List.mem_cons.mp hp with rfl | hp; exact (b1 _ (b2 _ (b3 _ (b4 _ (b5 _ (b6 _ (b7 _ a8)))))))
    rcases List.mem_cons.mp hp with rfl | hp; exact (b1 _ (b2 _ (b3 _ (b4 _ (b5 _ (b6 _ (b7 _ (b8 _ a9))))))))
    exact (b1 _ (b2 _ (b3 _ (b4 _ (b5 _ (b6 _ (b7 _ (b8 _ (b9 _ hp)))))))))
theorem jb_pre {L P S : Addr} {vs : List Value} {c2 : Nat} {o1 o2 o3 o4 o5 o6 o7 : Obj} (a : @Ne Nat S P) (b1 : @Ne Nat (L + 1) P) (b2 : @Ne Nat (L + 1 + 1) P) (b3 : @Ne Nat (L + 1 + 1 + 1) P) (b4 : @Ne Nat (L + 1 + 1 + 1 + 1) P) (b5 : @Ne Nat (L + 1 + 1 + 1 + 1 + 1) P) (b6 : @Ne Nat (L + 1 + 1 + 1 + 1 + 1 + 1) P) (b7 : @Ne Nat (L + 1 + 1 + 1 + 1 + 1 + 1 + 1) P) : ∀ q ∈ (S, listObj vs c2) :: (L + 1 + 1 + 1 + 1 + 1 + 1 + 1, o7) :: (L + 1 + 1 + 1 + 1 + 1 + 1, o6) :: (L + 1 + 1 + 1 + 1 + 1, o5) :: (L + 1 + 1 + 1 + 1, o4) :: (L + 1 + 1 + 1, o3) :: (L + 1 + 1, o2) :: (L + 1, o1) :: [], q.1 ≠ P := by
  intro p hp
  rcases List.mem_cons.mp hp with rfl | hp; exact a
  rcases List.mem_cons.mp hp with rfl | hp; exact b7
  rcases List.mem_cons.mp hp with rfl | hp; exact b6
  rcases List.mem_cons.mp hp with rfl | hp; exact b5
  rcases List.mem_cons.mp hp with rfl | hp; exact b4
  rcases List.mem_cons.mp hp with rfl | hp; exact b3
  rcases List.mem_cons.mp hp with rfl | hp; exact b2
  rcases List.mem_cons.mp hp with rfl | hp; exact b1
  cases hp
theorem jb_off {L P S : Addr} {vs : List Value} {c2 : Nat} {o1 o2 o3 o4 o5 o6 o7 : Obj} {oP : Obj} {rest : List (Addr × Obj)} (a : ∀ p ∈ rest, p.1 ≠ S) (b : ∀ p ∈ rest, p.1 ≠ P) (b1 : ∀ p ∈ rest, p.1 ≠ L + 1) (b2 : ∀ p ∈ rest, p.1 ≠ L + 1 + 1) (b3 : ∀ p ∈ rest, p.1 ≠ L + 1 + 1 + 1) (b4 : ∀ p ∈ rest, p.1 ≠ L + 1 + 1 + 1 + 1) (b5 : ∀ p ∈ rest, p.1 ≠ L + 1 + 1 + 1 + 1 + 1) (b6 : ∀ p ∈ rest, p.1 ≠ L + 1 + 1 + 1 + 1 + 1 + 1) (b7 : ∀ p ∈ rest, p.1 ≠ L + 1 + 1 + 1 + 1 + 1 + 1 + 1) : ∀ p ∈ rest, ∀ q ∈ (P, oP) :: (S, listObj vs c2) :: (L + 1 + 1 + 1 + 1 + 1 + 1 + 1, o7) :: (L + 1 + 1 + 1 + 1 + 1 + 1, o6) :: (L + 1 + 1 + 1 + 1 + 1, o5) :: (L + 1 + 1 + 1 + 1, o4) :: (L + 1 + 1 + 1, o3) :: (L + 1 + 1, o2) :: (L + 1, o1) :: [], q.1 ≠ p.1 := by
  intro p hq q hp
  rcases List.mem_cons.mp hp with rfl | hp; exact Ne.symm (b p hq)
  rcases List.mem_cons.mp hp with rfl | hp; exact Ne.symm (a p hq)
  rcases List.mem_cons.mp hp with rfl | hp; exact Ne.symm (b7 p hq)
  rcases List.mem_cons.mp hp with rfl | hp; exact Ne.symm (b6 p hq)
  rcases List.mem_cons.mp hp with rfl | hp; exact Ne.symm (b5 p hq)
  rcases List.mem_cons.mp hp with rfl | hp; exact Ne.symm (b4 p hq)
  rcases List.mem_cons.mp hp with rfl | hp; exact Ne.symm (b3 p hq)
  rcases List.mem_cons.mp hp with rfl | hp; exact Ne.symm (b2 p hq)
  rcases List.mem_cons.mp hp with rfl | hp; exact Ne.symm (b1 p hq)
  cases hp
theorem jb_back {L P S : Addr} {vs : List Value} {c2 : Nat} {o1 o2 o3 o4 o5 o6 o7 : Obj} {oP : Obj} {rest : List (Addr × Obj)} (h : ∀ p ∈ rest, ∀ q ∈ (P, oP) :: (S, listObj vs c2) :: (L + 1 + 1 + 1 + 1 + 1 + 1 + 1, o7) :: (L + 1 + 1 + 1 + 1 + 1 + 1, o6) :: (L + 1 + 1 + 1 + 1 + 1, o5) :: (L + 1 + 1 + 1 + 1, o4) :: (L + 1 + 1 + 1, o3) :: (L + 1 + 1, o2) :: (L + 1, o1) :: [], q.1 ≠ p.1) : (∀ p ∈ rest, p.1 ≠ S) ∧ (∀ p ∈ rest, p.1 ≠ P) ∧ (∀ p ∈ rest, p.1 ≠ L + 1) ∧ (∀ p ∈ rest, p.1 ≠ L + 1 + 1) ∧ (∀ p ∈ rest, p.1 ≠ L + 1 + 1 + 1) ∧ (∀ p ∈ rest, p.1 ≠ L + 1 + 1 + 1 + 1) ∧ (∀ p ∈ rest, p.1 ≠ L + 1 + 1 + 1 + 1 + 1) ∧ (∀ p ∈ rest, p.1 ≠ L + 1 + 1 + 1 + 1 + 1 + 1) ∧ (∀ p ∈ rest, p.1 ≠ L + 1 + 1 + 1 + 1 + 1 + 1 + 1) := by
  have g : ∀ x o, (x, o) ∈ (P, oP) :: (S, listObj vs c2) :: (L + 1 + 1 + 1 + 1 + 1 + 1 + 1, o7) :: (L + 1 + 1 + 1 + 1 + 1 + 1, o6) :: (L + 1 + 1 + 1 + 1 + 1, o5) :: (L + 1 + 1 + 1 + 1, o4) :: (L + 1 + 1 + 1, o3) :: (L + 1 + 1, o2) :: (L + 1, o1) :: [] → ∀ p ∈ rest, p.1 ≠ x := fun x o hx p hp => Ne.symm (h p hp (x, o) hx)
  refine ⟨g _ (listObj vs c2) (.tail _ (.head _)), g _ oP (.head _), g _ o1 (.tail _ (.tail _ (.tail _ (.tail _ (.tail _ (.tail _ (.tail _ (.tail _ (.head _))))))))), g _ o2 (.tail _ (.tail _ (.tail _ (.tail _ (.tail _ (.tail _ (.tail _ (.head _)))))))), g _ o3 (.tail _ (.tail _ (.tail _ (.tail _ (.tail _ (.tail _ (.head _))))))), g _ o4 (.tail _ (.tail _ (.tail _ (.tail _ (.tail _ (.head _)))))), g _ o5 (.tail _ (.tail _ (.tail _ (.tail _ (.head _))))), g _ o6 (.tail _ (.tail _ (.tail _ (.head _)))), g _ o7 (.tail _ (.tail _ (.head _)))⟩
def JC (Z : (Str → Option Value) → Option Value → Option Value → Option Value → Option Value → Option Value → Option Value → Option Value → List (Addr × Obj) → Prop) (L : Addr) (mm : Str → Option Value) (nw : List (Addr × Obj)) : Prop :=
  ∃ (o1 o2 o3 o4 o5 o6 o7 : Obj) (v1 v2 v3 v4 v5 v6 v7 : Option Value) (rest : List (Addr × Obj)), o1.data = .cell v1 ∧ o2.data = .cell v2 ∧ o3.data = .cell v3 ∧ o4.data = .cell v4 ∧ o5.data = .cell v5 ∧ o6.data = .cell v6 ∧ o7.data = .cell v7 ∧ nw = (L + 1 + 1 + 1 + 1 + 1 + 1 + 1, o7) :: (L + 1 + 1 + 1 + 1 + 1 + 1, o6) :: (L + 1 + 1 + 1 + 1 + 1, o5) :: (L + 1 + 1 + 1 + 1, o4) :: (L + 1 + 1 + 1, o3) :: (L + 1 + 1, o2) :: (L + 1, o1) :: rest ∧ (∀ p ∈ rest, p.1 ≠ L + 1) ∧ (∀ p ∈ rest, p.1 ≠ L + 1 + 1) ∧ (∀ p ∈ rest, p.1 ≠ L + 1 + 1 + 1) ∧ (∀ p ∈ rest, p.1 ≠ L + 1 + 1 + 1 + 1) ∧ (∀ p ∈ rest, p.1 ≠ L + 1 + 1 + 1 + 1 + 1) ∧ (∀ p ∈ rest, p.1 ≠ L + 1 + 1 + 1 + 1 + 1 + 1) ∧ (∀ p ∈ rest, p.1 ≠ L + 1 + 1 + 1 + 1 + 1 + 1 + 1) ∧ Z mm v1 v2 v3 v4 v5 v6 v7 rest
theorem JC.intro {Z : (Str → Option Value) → Option Value → Option Value → Option Value → Option Value → Option Value → Option Value → Option Value → List (Addr × Obj) → Prop} {L : Addr} {o1 o2 o3 o4 o5 o6 o7 : Obj} {v1 v2 v3 v4 v5 v6 v7 : Option Value} {all l1 l2 l3 l4 l5 l6 rest : List (Addr × Obj)} {mm : Str → Option Value}
    (D1 : Del (L + 1 + 1 + 1 + 1 + 1 + 1 + 1) o7 all l1) (D2 : Del (L + 1 + 1 + 1 + 1 + 1 + 1) o6 l1 l2) (D3 : Del (L + 1 + 1 + 1 + 1 + 1) o5 l2 l3) (D4 : Del (L + 1 + 1 + 1 + 1) o4 l3 l4) (D5 : Del (L + 1 + 1 + 1) o3 l4 l5) (D6 : Del (L + 1 + 1) o2 l5 l6) (D7 : Del (L + 1) o1 l6 rest) (d1 : o1.data = .cell v1) (d2 : o2.data = .cell v2) (d3 : o3.data = .cell v3) (d4 : o4.data = .cell v4) (d5 : o5.data = .cell v5) (d6 : o6.data = .cell v6) (d7 : o7.data = .cell v7) (z : Z mm v1 v2 v3 v4 v5 v6 v7 rest) : ∃ small, (∀ p ∈ small, p ∈ all) ∧ JC Z L mm small := by
  obtain ⟨a1, b1, c1⟩ := D1.facts
  obtain ⟨a2, b2, c2⟩ := D2.facts
  obtain ⟨a3, b3, c3⟩ := D3.facts
  obtain ⟨a4, b4, c4⟩ := D4.facts
  obtain ⟨a5, b5, c5⟩ := D5.facts
  obtain ⟨a6, b6, c6⟩ := D6.facts
  obtain ⟨a7, b7, c7⟩ := D7.facts
  refine ⟨(L + 1 + 1 + 1 + 1 + 1 + 1 + 1, o7) :: (L + 1 + 1 + 1 + 1 + 1 + 1, o6) :: (L + 1 + 1 + 1 + 1 + 1, o5) :: (L + 1 + 1 + 1 + 1, o4) :: (L + 1 + 1 + 1, o3) :: (L + 1 + 1, o2) :: (L + 1, o1) :: rest, fun p hp => ?_, o1, o2, o3, o4, o5, o6, o7, v1, v2, v3, v4, v5, v6, v7, rest, d1, d2, d3, d4, d5, d6, d7, rfl, fun p hp => c7 _ hp, fun p hp => c6 _ (b7 _ hp), fun p hp => c5 _ (b6 _ (b7 _ hp)), fun p hp => c4 _ (b5 _ (b6 _ (b7 _ hp))), fun p hp => c3 _ (b4 _ (b5 _ (b6 _ (b7 _ hp)))), fun p hp => c2 _ (b3 _ (b4 _ (b5 _ (b6 _ (b7 _ hp))))), fun p hp => c1 _ (b2 _ (b3 _ (b4 _ (b5 _ (b6 _ (b7 _ hp)))))), z⟩
  ·
    rcases List.mem_cons.mp hp with rfl | hp; exact a1
    rcases List.mem_cons.mp hp with rfl | hp; exact (b1 _ a2)
    rcases List.mem_cons.mp hp with rfl | hp; exact (b1 _ (b2 _ a3))
    rcases List.mem_cons.mp hp with rfl | hp; exact (b1 _ (b2 _ (b3 _ a4)))
    rcases List.mem_cons.mp hp with rfl | hp; exact (b1 _ (b2 _ (b3 _ (b4 _ a5))))
    rcases List.mem_cons.mp hp with rfl | hp; exact (b1 _ (b2 _ (b3 _ (b4 _ (b5 _ a6)))))
    rcases List.mem_cons.mp hp with rfl | hp; exact (b1 _ (b2 _ (b3 _ (b4 _ (b5 _ (b6 _ a7))))))
    exact (b1 _ (b2 _ (b3 _ (b4 _ (b5 _ (b6 _ (b7 _ hp)))))))
end Mine
end
section
open PySem PySem.W PyProof.Rows PySem.Calls PySem.Spec PyProof.V
set_option Elab.async false
set_option maxRecDepth 100000
set_option maxHeartbeats 8000000
namespace Mine
section
variable {w : World} {mean : ExcName → Option Value} {mg mb : Str → Option Value} {news : List (Addr × Obj)}
  {dp un : Nat} {gd : Option (List Code)} {cn : Str} {cs : Scope} {a : Addr} {ccd : Value} {cl : List (Str × Addr)} {outer : List Env} {A₀ : Around} {base h₀ : Heap} {L : Addr} {m : Str → Option Value} {s : Shared} {Q E : Value → Shared → Prop}
theorem times_law {all : List (Addr × Obj)} {xD : Addr} {xc : Nat} {xr0 : Addr} {xc0 : Nat} {xr1 : Addr} {xc1 : Nat} {xa00 : Addr} {xp00 : Rat} {xs00 xu00 : Tok} {xk00 : Nat} {xa01 : Addr} {xp01 : Rat} {xs01 xu01 : Tok} {xk01 : Nat} {xa10 : Addr} {xp10 : Rat} {xs10 xu10 : Tok} {xk10 : Nat} {xa11 : Addr} {xp11 : Rat} {xs11 xu11 : Tok} {xk11 : Nat} {yD : Addr} {yc : Nat} {yr0 : Addr} {yc0 : Nat} {yr1 : Addr} {yc1 : Nat} {ya00 : Addr} {yp00 : Rat} {ys00 yu00 : Tok} {yk00 : Nat} {ya01 : Addr} {yp01 : Rat} {ys01 yu01 : Tok} {yk01 : Nat} {ya10 : Addr} {yp10 : Rat} {ys10 yu10 : Tok} {yk10 : Nat} {ya11 : Addr} {yp11 : Rat} {ys11 yu11 : Tok} {yk11 : Nat} (B : Below A₀ base outer h₀) (F : Fr h₀ L s.heap m) (X : (hd.heap_39 w.params).In h₀) (N : News h₀ L s.heap all) (T : Top hd.view_39 LO mean mg mb h₀) (hk : cs.kind = .function) (hd : dp + 5 < recursionLimit) (hu : un + 8 * 5 < cLine) (G : Great mg) (xl : (xD, listObj [.ref xr0, .ref xr1] xc) ∈ all) (xh0 : (xr0, listObj [.ref xa00, .ref xa01] xc0) ∈ all) (xh1 : (xr1, listObj [.ref xa10, .ref xa11] xc1) ∈ all) (xm00 : (xa00, tup2 xp00.num xs00 xp00.den xu00 xk00) ∈ all) (xm01 : (xa01, tup2 xp01.num xs01 xp01.den xu01 xk01) ∈ all) (xm10 : (xa10, tup2 xp10.num xs10 xp10.den xu10 xk10) ∈ all) (xm11 : (xa11, tup2 xp11.num xs11 xp11.den xu11 xk11) ∈ all) (xz00 : Sz 2 xp00) (xz01 : Sz 2 xp01) (xz10 : Sz 2 xp10) (xz11 : Sz 2 xp11) (yl : (yD, listObj [.ref yr0, .ref yr1] yc) ∈ all) (yh0 : (yr0, listObj [.ref ya00, .ref ya01] yc0) ∈ all) (yh1 : (yr1, listObj [.ref ya10, .ref ya11] yc1) ∈ all) (ym00 : (ya00, tup2 yp00.num ys00 yp00.den yu00 yk00) ∈ all) (ym01 : (ya01, tup2 yp01.num ys01 yp01.den yu01 yk01) ∈ all) (ym10 : (ya10, tup2 yp10.num ys10 yp10.den yu10 yk10) ∈ all) (ym11 : (ya11, tup2 yp11.num ys11 yp11.den yu11 yk11) ∈ all) (yz00 : Sz 2 yp00) (yz01 : Sz 2 yp01) (yz10 : Sz 2 yp10) (yz11 : Sz 2 yp11)
    (ret : ∀ D c r0 c0 r1 c1 a00 s00 u00 k00 a01 s01 u01 k01 a10 s10 u10 k10 a11 s11 u11 k11 tl h' tk', Fr h₀ L h' m → News h₀ L h' (tl ++ all) → (D, listObj [.ref r0, .ref r1] c) ∈ tl → (r0, listObj [.ref a00, .ref a01] c0) ∈ tl → (r1, listObj [.ref a10, .ref a11] c1) ∈ tl →
      (a00, tup2 (xp00 * yp00 + xp01 * yp10).num s00 (xp00 * yp00 + xp01 * yp10).den u00 k00) ∈ tl → (a01, tup2 (xp00 * yp01 + xp01 * yp11).num s01 (xp00 * yp01 + xp01 * yp11).den u01 k01) ∈ tl → (a10, tup2 (xp10 * yp00 + xp11 * yp10).num s10 (xp10 * yp00 + xp11 * yp10).den u10 k10) ∈ tl → (a11, tup2 (xp10 * yp01 + xp11 * yp11).num s11 (xp10 * yp01 + xp11 * yp11).den u11 k11) ∈ tl → Sz 9 (xp00 * yp00 + xp01 * yp10) → Sz 9 (xp00 * yp01 + xp01 * yp11) → Sz 9 (xp10 * yp00 + xp11 * yp10) → Sz 9 (xp10 * yp01 + xp11 * yp11) → (∀ p ∈ tl, ∀ q ∈ all, q.1 ≠ p.1) → Q (.ref D) { s with heap := h', toks := tk' }) :
    wpAny (model PR w) (ktrTop dp un gd cn cs L a ccd cl outer) (call (.ref 165) [.ref xD, .ref yD]) Q E s := by
  refine times_does w mean mg mb G all xD xc xr0 xc0 xr1 xc1 xa00 xp00 xs00 xu00 xk00 xa01 xp01 xs01 xu01 xk01 xa10 xp10 xs10 xu10 xk10 xa11 xp11 xs11 xu11 xk11 yD yc yr0 yc0 yr1 yc1 ya00 yp00 ys00 yu00 yk00 ya01 yp01 ys01 yu01 yk01 ya10 yp10 ys10 yu10 yk10 ya11 yp11 ys11 yu11 yk11 xl xh0 xh1 xm00 xz00 xm01 xz01 xm10 xz10 xm11 xz11 yl yh0 yh1 ym00 yz00 ym01 yz01 ym10 yz10 ym11 yz11 dp un gd cn cs a ccd cl outer A₀ base h₀ L m s Q E B F X N T hk hd hu ?_
  rintro r news' h' tk' F' N' ⟨D, c, r0, c0, r1, c1, a00, s00, u00, k00, a01, s01, u01, k01, a10, s10, u10, k10, a11, s11, u11, k11, rfl, rfl, ap⟩
  exact ret D c r0 c0 r1 c1 a00 s00 u00 k00 a01 s01 u01 k01 a10 s10 u10 k10 a11 s11 u11 k11 _ h' tk' F' N' (.head _) (.tail _ (.head _)) (.tail _ (.tail _ (.head _))) (.tail _ (.tail _ (.tail _ (.head _)))) (.tail _ (.tail _ (.tail _ (.tail _ (.head _))))) (.tail _ (.tail _ (.tail _ (.tail _ (.tail _ (.head _)))))) (.tail _ (.tail _ (.tail _ (.tail _ (.tail _ (.tail _ (.head _)))))))
    ((Sz.add (Sz.mul xz00 yz00) (Sz.mul xz01 yz10)).mono (by decide)) ((Sz.add (Sz.mul xz00 yz01) (Sz.mul xz01 yz11)).mono (by decide)) ((Sz.add (Sz.mul xz10 yz00) (Sz.mul xz11 yz10)).mono (by decide)) ((Sz.add (Sz.mul xz10 yz01) (Sz.mul xz11 yz11)).mono (by decide)) ap
theorem taken22_law {all : List (Addr × Obj)} (Sh : Nat → (Nat → Nat → Rat) → Rat → Prop) (M : Nat → Nat → Rat) (hsh0 : Sh 0 M 1)
    (hsw : ∀ a ld P f, a < 2 → a < ld → ld < 2 → Sh a P f → Sh a (swapP P a ld) (-f)) (hel : ∀ a P f, a < 2 → Sh a P f → P a a ≠ 0 → Sh (a + 1) (elimP P a 2) (f * P a a)) {xD : Addr} {xc : Nat} {xr0 : Addr} {xc0 : Nat} {xr1 : Addr} {xc1 : Nat} {xa00 : Addr} {xs00 xu00 : Tok} {xk00 : Nat} {xa01 : Addr} {xs01 xu01 : Tok} {xk01 : Nat} {xa10 : Addr} {xs10 xu10 : Tok} {xk10 : Nat} {xa11 : Addr} {xs11 xu11 : Tok} {xk11 : Nat} (B : Below A₀ base outer h₀) (F : Fr h₀ L s.heap m) (X : (hd.heap_39 w.params).In h₀) (N : News h₀ L s.heap all) (T : Top hd.view_39 LO mean mg mb h₀) (hk : cs.kind = .function) (hd : dp + 16 < recursionLimit) (hu : un + 8 * 16 < cLine) (G : Great mg) (xl : (xD, listObj [.ref xr0, .ref xr1] xc) ∈ all) (xh0 : (xr0, listObj [.ref xa00, .ref xa01] xc0) ∈ all) (xh1 : (xr1, listObj [.ref xa10, .ref xa11] xc1) ∈ all) (xm00 : (xa00, tup2 (M 0 0).num xs00 (M 0 0).den xu00 xk00) ∈ all) (xm01 : (xa01, tup2 (M 0 1).num xs01 (M 0 1).den xu01 xk01) ∈ all) (xm10 : (xa10, tup2 (M 1 0).num xs10 (M 1 0).den xu10 xk10) ∈ all) (xm11 : (xa11, tup2 (M 1 1).num xs11 (M 1 1).den xu11 xk11) ∈ all) (xz00 : Sz 2 (M 0 0)) (xz01 : Sz 2 (M 0 1)) (xz10 : Sz 2 (M 1 0)) (xz11 : Sz 2 (M 1 1))
    (ret : ∀ T cT RR vs cR Fd q sf uf kf P tl h' tk', Fr h₀ L h' m → News h₀ L h' (tl ++ all) → (T, tupR RR Fd cT) ∈ tl ++ all → (RR, listObj vs cR) ∈ tl ++ all → (Fd, tup2 q.num sf q.den uf kf) ∈ tl ++ all → Sz 475 q → RowsAt 2 2 (tl ++ all) vs P (fun _ => 475) → (∀ p ∈ tl, ∀ q ∈ all, q.1 ≠ p.1) →
      (Sh 2 P q ∨ q = 0 ∧ ∃ a P' f', a < 2 ∧ Sh a P' f' ∧ ∀ i, a ≤ i → i < 2 → P' i a = 0) → Q (.ref T) { s with heap := h', toks := tk' }) :
    wpAny (model PR w) (ktrTop dp un gd cn cs L a ccd cl outer) (call (.ref 160) [.ref xD]) Q E s := by
  refine taken22_does w mean mg mb G Sh M hsh0 hsw hel all xD xc xr0 xc0 xr1 xc1 xa00 xs00 xu00 xk00 xa01 xs01 xu01 xk01 xa10 xs10 xu10 xk10 xa11 xs11 xu11 xk11 xl xh0 xh1 xm00 xz00 xm01 xz01 xm10 xz10 xm11 xz11 dp un gd cn cs a ccd cl outer A₀ base h₀ L m s Q E B F X N T hk hd hu ?_
  rintro r news' h' tk' F' N' ⟨T, cT, RR, vs, cR, Fd, q, sf, uf, kf, P, tl, rfl, h1, h2, h3, hz, hr, rfl, ap, hp⟩
  exact ret T cT RR vs cR Fd q sf uf kf P tl h' tk' F' N' h1 h2 h3 hz hr ap hp
theorem taken34_law {all : List (Addr × Obj)} (Sh : Nat → (Nat → Nat → Rat) → Rat → Prop) (M : Nat → Nat → Rat) (hsh0 : Sh 0 M 1)
    (hsw : ∀ a ld P f, a < 3 → a < ld → ld < 3 → Sh a P f → Sh a (swapP P a ld) (-f)) (hel : ∀ a P f, a < 3 → Sh a P f → P a a ≠ 0 → Sh (a + 1) (elimP P a 3) (f * P a a)) {xD : Addr} {xc : Nat} {xr0 : Addr} {xc0 : Nat} {xr1 : Addr} {xc1 : Nat} {xr2 : Addr} {xc2 : Nat} {xa00 : Addr} {xs00 xu00 : Tok} {xk00 : Nat} {xa01 : Addr} {xs01 xu01 : Tok} {xk01 : Nat} {xa02 : Addr} {xs02 xu02 : Tok} {xk02 : Nat} {xa03 : Addr} {xs03 xu03 : Tok} {xk03 : Nat} {xa10 : Addr} {xs10 xu10 : Tok} {xk10 : Nat} {xa11 : Addr} {xs11 xu11 : Tok} {xk11 : Nat} {xa12 : Addr} {xs12 xu12 : Tok} {xk12 : Nat} {xa13 : Addr} {xs13 xu13 : Tok} {xk13 : Nat} {xa20 : Addr} {xs20 xu20 : Tok} {xk20 : Nat} {xa21 : Addr} {xs21 xu21 : Tok} {xk21 : Nat} {xa22 : Addr} {xs22 xu22 : Tok} {xk22 : Nat} {xa23 : Addr} {xs23 xu23 : Tok} {xk23 : Nat} (B : Below A₀ base outer h₀) (F : Fr h₀ L s.heap m) (X : (hd.heap_39 w.params).In h₀) (N : News h₀ L s.heap all) (T : Top hd.view_39 LO mean mg mb h₀) (hk : cs.kind = .function) (hd : dp + 16 < recursionLimit) (hu : un + 8 * 16 < cLine) (G : Great mg) (xl : (xD, listObj [.ref xr0, .ref xr1, .ref xr2] xc) ∈ all) (xh0 : (xr0, listObj [.ref xa00, .ref xa01, .ref xa02, .ref xa03] xc0) ∈ all) (xh1 : (xr1, listObj [.ref xa10, .ref xa11, .ref xa12, .ref xa13] xc1) ∈ all) (xh2 : (xr2, listObj [.ref xa20, .ref xa21, .ref xa22, .ref xa23] xc2) ∈ all) (xm00 : (xa00, tup2 (M 0 0).num xs00 (M 0 0).den xu00 xk00) ∈ all) (xm01 : (xa01, tup2 (M 0 1).num xs01 (M 0 1).den xu01 xk01) ∈ all) (xm02 : (xa02, tup2 (M 0 2).num xs02 (M 0 2).den xu02 xk02) ∈ all) (xm03 : (xa03, tup2 (M 0 3).num xs03 (M 0 3).den xu03 xk03) ∈ all) (xm10 : (xa10, tup2 (M 1 0).num xs10 (M 1 0).den xu10 xk10) ∈ all) (xm11 : (xa11, tup2 (M 1 1).num xs11 (M 1 1).den xu11 xk11) ∈ all) (xm12 : (xa12, tup2 (M 1 2).num xs12 (M 1 2).den xu12 xk12) ∈ all) (xm13 : (xa13, tup2 (M 1 3).num xs13 (M 1 3).den xu13 xk13) ∈ all) (xm20 : (xa20, tup2 (M 2 0).num xs20 (M 2 0).den xu20 xk20) ∈ all) (xm21 : (xa21, tup2 (M 2 1).num xs21 (M 2 1).den xu21 xk21) ∈ all) (xm22 : (xa22, tup2 (M 2 2).num xs22 (M 2 2).den xu22 xk22) ∈ all) (xm23 : (xa23, tup2 (M 2 3).num xs23 (M 2 3).den xu23 xk23) ∈ all) (xz00 : Sz 2 (M 0 0)) (xz01 : Sz 2 (M 0 1)) (xz02 : Sz 2 (M 0 2)) (xz03 : Sz 2 (M 0 3)) (xz10 : Sz 2 (M 1 0)) (xz11 : Sz 2 (M 1 1)) (xz12 : Sz 2 (M 1 2)) (xz13 : Sz 2 (M 1 3)) (xz20 : Sz 2 (M 2 0)) (xz21 : Sz 2 (M 2 1)) (xz22 : Sz 2 (M 2 2)) (xz23 : Sz 2 (M 2 3))
    (ret : ∀ T cT RR vs cR Fd q sf uf kf P tl h' tk', Fr h₀ L h' m → News h₀ L h' (tl ++ all) → (T, tupR RR Fd cT) ∈ tl ++ all → (RR, listObj vs cR) ∈ tl ++ all → (Fd, tup2 q.num sf q.den uf kf) ∈ tl ++ all → Sz 475 q → RowsAt 3 4 (tl ++ all) vs P (fun _ => 475) → (∀ p ∈ tl, ∀ q ∈ all, q.1 ≠ p.1) →
      (Sh 3 P q ∨ q = 0 ∧ ∃ a P' f', a < 3 ∧ Sh a P' f' ∧ ∀ i, a ≤ i → i < 3 → P' i a = 0) → Q (.ref T) { s with heap := h', toks := tk' }) :
    wpAny (model PR w) (ktrTop dp un gd cn cs L a ccd cl outer) (call (.ref 160) [.ref xD]) Q E s := by
  refine taken34_does w mean mg mb G Sh M hsh0 hsw hel all xD xc xr0 xc0 xr1 xc1 xr2 xc2 xa00 xs00 xu00 xk00 xa01 xs01 xu01 xk01 xa02 xs02 xu02 xk02 xa03 xs03 xu03 xk03 xa10 xs10 xu10 xk10 xa11 xs11 xu11 xk11 xa12 xs12 xu12 xk12 xa13 xs13 xu13 xk13 xa20 xs20 xu20 xk20 xa21 xs21 xu21 xk21 xa22 xs22 xu22 xk22 xa23 xs23 xu23 xk23 xl xh0 xh1 xh2 xm00 xz00 xm01 xz01 xm02 xz02 xm03 xz03 xm10 xz10 xm11 xz11 xm12 xz12 xm13 xz13 xm20 xz20 xm21 xz21 xm22 xz22 xm23 xz23 dp un gd cn cs a ccd cl outer A₀ base h₀ L m s Q E B F X N T hk hd hu ?_
  rintro r news' h' tk' F' N' ⟨T, cT, RR, vs, cR, Fd, q, sf, uf, kf, P, tl, rfl, h1, h2, h3, hz, hr, rfl, ap, hp⟩
  exact ret T cT RR vs cR Fd q sf uf kf P tl h' tk' F' N' h1 h2 h3 hz hr ap hp
end
end Mine
end
section
namespace Mine
def det2 (P : Nat → Nat → Rat) : Rat := P 0 0 * P 1 1 + -(P 0 1 * P 1 0)
def det3 (P : Nat → Nat → Rat) : Rat := P 0 0 * (P 1 1 * P 2 2 + -(P 1 2 * P 2 1)) + -(P 0 1 * (P 1 0 * P 2 2 + -(P 1 2 * P 2 0))) + P 0 2 * (P 1 0 * P 2 1 + -(P 1 1 * P 2 0))
def Sh2 (M : Nat → Nat → Rat) (a : Nat) (P : Nat → Nat → Rat) (f : Rat) : Prop :=
  f * det2 P = det2 M ∧ (∀ i j, i < 2 → j < a → P i j = if i = j then 1 else 0)
theorem sh2_0 (M) : Sh2 M 0 M 1 := ⟨by grind, fun i j _ h => absurd h (by omega)⟩
theorem sh2_sw (M) : ∀ a ld P f, a < 2 → a < ld → ld < 2 → Sh2 M a P f → Sh2 M a (swapP P a ld) (-f) := by
  intro a ld P f h1 h2 h3 ⟨h, g⟩
  obtain rfl : a = 0 := by omega
  obtain rfl : ld = 1 := by omega
  refine ⟨?_, fun i j _ h => absurd h (by omega)⟩
  simp only [det2, swapP] at *
  simp
  grind
theorem inv_mul {d : Rat} (h : d ≠ 0) : d * d⁻¹ = 1 := Rat.mul_inv_cancel _ h
theorem sh2_el (M) : ∀ a P f, a < 2 → Sh2 M a P f → P a a ≠ 0 → Sh2 M (a + 1) (elimP P a 2) (f * P a a) := by
  intro a P f h1 ⟨h, g⟩ hn
  have hi := inv_mul hn
  have ha : a = 0 ∨ a = 1 := by omega
  rcases ha with rfl | rfl
  · refine ⟨?_, ?_⟩
    · simp [det2, elimP, Rat.div_def] at *
      grind
    · intro i j hi' hj
      have : j = 0 := by omega
      have hi2 : i = 0 ∨ i = 1 := by omega
      subst this
      rcases hi2 with rfl | rfl <;> simp [elimP, Rat.div_def] <;> grind
  · have e0 := g 0 0 (by decide) (by decide)
    have e1 := g 1 0 (by decide) (by decide)
    simp at e0 e1
    refine ⟨?_, ?_⟩
    · simp [det2, elimP, Rat.div_def] at *
      grind
    · intro i j hi' hj
      have hj2 : j = 0 ∨ j = 1 := by omega
      have hi2 : i = 0 ∨ i = 1 := by omega
      rcases hi2 with rfl | rfl <;> rcases hj2 with rfl | rfl <;> simp [elimP, Rat.div_def] <;> grind
theorem sh2_end {M P : Nat → Nat → Rat} {q : Rat} (h : Sh2 M 2 P q) : q = det2 M := by
  obtain ⟨h, g⟩ := h
  have e0 := g 0 0 (by decide) (by decide)
  have e1 := g 1 0 (by decide) (by decide)
  have e2 := g 0 1 (by decide) (by decide)
  have e3 := g 1 1 (by decide) (by decide)
  simp at e0 e1 e2 e3
  simp only [det2, e0, e1, e2, e3] at h ⊢
  grind
theorem sh2_nought {M P : Nat → Nat → Rat} {a : Nat} {f : Rat} (ha : a < 2) (h : Sh2 M a P f) (hz : ∀ i, a ≤ i → i < 2 → P i a = 0) : det2 M = 0 := by
  obtain ⟨h, g⟩ := h
  have ha : a = 0 ∨ a = 1 := by omega
  rcases ha with rfl | rfl
  · have z0 := hz 0 (by decide) (by decide)
    have z1 := hz 1 (by decide) (by decide)
    rw [← h]; simp only [det2, z0, z1]; grind
  · have z1 := hz 1 (by decide) (by decide)
    have e1 := g 1 0 (by decide) (by decide)
    simp at e1
    rw [← h]; simp only [det2, z1, e1]; grind
theorem taken2_det {M P : Nat → Nat → Rat} {q : Rat} (h : Sh2 M 2 P q ∨ q = 0 ∧ ∃ a P' f', a < 2 ∧ Sh2 M a P' f' ∧ ∀ i, a ≤ i → i < 2 → P' i a = 0) : q = det2 M := by
  rcases h with h | ⟨rfl, a, P', f', h1, h2, h3⟩
  · exact sh2_end h
  · exact (sh2_nought h1 h2 h3).symm
def Sol (P : Nat → Nat → Rat) (x y z : Rat) : Prop := ∀ i, i < 3 → P i 0 * x + P i 1 * y + P i 2 * z = P i 3
def Sh3 (M : Nat → Nat → Rat) (a : Nat) (P : Nat → Nat → Rat) (f : Rat) : Prop :=
  f * det3 P = det3 M ∧ (∀ i j, i < 3 → j < a → P i j = if i = j then 1 else 0) ∧ ∀ x y z, Sol M x y z → Sol P x y z
theorem sh3_0 (M) : Sh3 M 0 M 1 := ⟨by grind, fun i j _ h => absurd h (by omega), fun _ _ _ h => h⟩
theorem sol_sw {P : Nat → Nat → Rat} {a b : Nat} {x y z : Rat} (ha : a < 3) (hb : b < 3) (h : Sol P x y z) : Sol (swapP P a b) x y z := by
  intro i hi
  unfold swapP
  split
  · exact h b hb
  · split
    · exact h a ha
    · exact h i hi
theorem sol_el {P : Nat → Nat → Rat} {a : Nat} {x y z : Rat} (ha : a < 3) (hn : P a a ≠ 0) (h : Sol P x y z) : Sol (elimP P a 3) x y z := by
  intro i hi
  have hd := inv_mul hn
  have h1 := h a ha
  have h2 := h i hi
  unfold elimP
  by_cases e : i = a
  · subst e
    simp only [if_true, Rat.div_def]
    grind
  · simp only [if_neg e, if_pos hi, Rat.div_def]
    grind
theorem sh3_sw (M) : ∀ a ld P f, a < 3 → a < ld → ld < 3 → Sh3 M a P f → Sh3 M a (swapP P a ld) (-f) := by
  intro a ld P f h1 h2 h3 ⟨h, g, k⟩
  refine ⟨?_, ?_, fun x y z hs => sol_sw h1 h3 (k x y z hs)⟩
  · have hc : (a = 0 ∧ ld = 1) ∨ (a = 0 ∧ ld = 2) ∨ (a = 1 ∧ ld = 2) := by omega
    rcases hc with ⟨rfl, rfl⟩ | ⟨rfl, rfl⟩ | ⟨rfl, rfl⟩ <;> simp only [det3, swapP] at * <;> simp <;> grind
  · intro i j hi hj
    unfold swapP
    have ga := g a j h1 hj
    have gl := g ld j h3 hj
    rw [if_neg (by omega)] at ga gl
    split
    · rw [gl, if_neg (by omega)]
    · split
      · rw [ga, if_neg (by omega)]
      · exact g i j hi hj
theorem el_cols {P : Nat → Nat → Rat} {a : Nat} (ha : a < 3) (hn : P a a ≠ 0) (g : ∀ i j, i < 3 → j < a → P i j = if i = j then 1 else 0) : ∀ i j, i < 3 → j < a + 1 → elimP P a 3 i j = if i = j then 1 else 0 := by
  intro i j hi hj
  have hd := inv_mul hn
  unfold elimP
  by_cases e : j = a
  · subst e
    by_cases e2 : i = j
    · subst e2; simp only [if_true, Rat.div_def]; exact hd
    · simp only [if_neg e2, if_pos hi, Rat.div_def]; grind
  · have g1 := g a j ha (by omega)
    have g2 := g i j hi (by omega)
    rw [if_neg (by omega)] at g1
    by_cases e2 : i = a
    · subst e2
      simp only [if_true, Rat.div_def, g1]; rw [if_neg (by omega)]; grind
    · simp only [if_neg e2, if_pos hi, Rat.div_def, g1, g2]; grind
theorem sh3_el (M) : ∀ a P f, a < 3 → Sh3 M a P f → P a a ≠ 0 → Sh3 M (a + 1) (elimP P a 3) (f * P a a) := by
  intro a P f h1 ⟨h, g, k⟩ hn
  refine ⟨?_, el_cols h1 hn g, fun x y z hs => sol_el h1 hn (k x y z hs)⟩
  have hd := inv_mul hn
  have ha : a = 0 ∨ a = 1 ∨ a = 2 := by omega
  rcases ha with rfl | rfl | rfl
  · simp [det3, elimP, Rat.div_def] at *
    grind
  · have e0 := g 0 0 (by decide) (by decide)
    have e1 := g 1 0 (by decide) (by decide)
    have e2 := g 2 0 (by decide) (by decide)
    simp at e0 e1 e2
    clear g k
    simp [det3, elimP, Rat.div_def, e0, e1, e2] at *
    grind
  · have e0 := g 0 0 (by decide) (by decide)
    have e1 := g 1 0 (by decide) (by decide)
    have e2 := g 2 0 (by decide) (by decide)
    have e3 := g 0 1 (by decide) (by decide)
    have e4 := g 1 1 (by decide) (by decide)
    have e5 := g 2 1 (by decide) (by decide)
    simp at e0 e1 e2 e3 e4 e5
    clear g k
    simp [det3, elimP, Rat.div_def, e0, e1, e2, e3, e4, e5] at *
    grind
theorem sh3_end {M P : Nat → Nat → Rat} {q : Rat} (h : Sh3 M 3 P q) : q = det3 M := by
  obtain ⟨h, g, -⟩ := h
  have e0 := g 0 0 (by decide) (by decide)
  have e1 := g 1 0 (by decide) (by decide)
  have e2 := g 2 0 (by decide) (by decide)
  have e3 := g 0 1 (by decide) (by decide)
  have e4 := g 1 1 (by decide) (by decide)
  have e5 := g 2 1 (by decide) (by decide)
  have e6 := g 0 2 (by decide) (by decide)
  have e7 := g 1 2 (by decide) (by decide)
  have e8 := g 2 2 (by decide) (by decide)
  simp at e0 e1 e2 e3 e4 e5 e6 e7 e8
  simp only [det3, e0, e1, e2, e3, e4, e5, e6, e7, e8] at h ⊢
  grind
theorem sh3_sol {M P : Nat → Nat → Rat} {q x y z : Rat} (h : Sh3 M 3 P q) (hs : Sol M x y z) : P 0 3 = x ∧ P 1 3 = y ∧ P 2 3 = z := by
  obtain ⟨-, g, k⟩ := h
  have s := k x y z hs
  have s0 := s 0 (by decide)
  have s1 := s 1 (by decide)
  have s2 := s 2 (by decide)
  have e0 := g 0 0 (by decide) (by decide)
  have e1 := g 1 0 (by decide) (by decide)
  have e2 := g 2 0 (by decide) (by decide)
  have e3 := g 0 1 (by decide) (by decide)
  have e4 := g 1 1 (by decide) (by decide)
  have e5 := g 2 1 (by decide) (by decide)
  have e6 := g 0 2 (by decide) (by decide)
  have e7 := g 1 2 (by decide) (by decide)
  have e8 := g 2 2 (by decide) (by decide)
  simp at e0 e1 e2 e3 e4 e5 e6 e7 e8
  simp only [e0, e1, e2, e3, e4, e5, e6, e7, e8] at s0 s1 s2
  grind
theorem sh3_nought {M P : Nat → Nat → Rat} {a : Nat} {f : Rat} (ha : a < 3) (h : Sh3 M a P f) (hz : ∀ i, a ≤ i → i < 3 → P i a = 0) : det3 M = 0 := by
  obtain ⟨h, g, -⟩ := h
  have ha : a = 0 ∨ a = 1 ∨ a = 2 := by omega
  rw [← h]
  rcases ha with rfl | rfl | rfl
  · have z0 := hz 0 (by decide) (by decide)
    have z1 := hz 1 (by decide) (by decide)
    have z2 := hz 2 (by decide) (by decide)
    simp only [det3, z0, z1, z2]; grind
  · have z1 := hz 1 (by decide) (by decide)
    have z2 := hz 2 (by decide) (by decide)
    have e1 := g 1 0 (by decide) (by decide)
    have e2 := g 2 0 (by decide) (by decide)
    simp at e1 e2
    simp only [det3, z1, z2, e1, e2]; grind
  · have z2 := hz 2 (by decide) (by decide)
    have e2 := g 2 0 (by decide) (by decide)
    have e5 := g 2 1 (by decide) (by decide)
    simp at e2 e5
    simp only [det3, z2, e2, e5]; grind
def TakenR3 (M P : Nat → Nat → Rat) (q : Rat) : Prop := Sh3 M 3 P q ∨ q = 0 ∧ ∃ a P' f', a < 3 ∧ Sh3 M a P' f' ∧ ∀ i, a ≤ i → i < 3 → P' i a = 0
theorem taken3_det {M P : Nat → Nat → Rat} {q : Rat} (h : TakenR3 M P q) : q = det3 M := by
  rcases h with h | ⟨rfl, a, P', f', h1, h2, h3⟩
  · exact sh3_end h
  · exact (sh3_nought h1 h2 h3).symm
theorem taken3_sol {M P : Nat → Nat → Rat} {q x y z : Rat} (h : TakenR3 M P q) (hd : det3 M ≠ 0) (hs : Sol M x y z) : P 0 3 = x ∧ P 1 3 = y ∧ P 2 3 = z := by
  rcases h with h | ⟨_, a, P', f', h1, h2, h3⟩
  · exact sh3_sol h hs
  · exact absurd (sh3_nought h1 h2 h3) hd
def aug (r : Nat → Nat → Rat) (b : Nat → Rat) : Nat → Nat → Rat := fun i j => if j < 3 then r i j else b i
def cram (r : Nat → Nat → Rat) (b : Nat → Rat) (k : Nat) : Nat → Nat → Rat := fun i j => if j = k then b i else r i j
theorem det_aug {r : Nat → Nat → Rat} {b : Nat → Rat} : det3 (aug r b) = det3 r := by simp [det3, aug]
theorem cramer0 {r : Nat → Nat → Rat} {b : Nat → Rat} {i : Nat} (hi : i < 3) : r i 0 * det3 (cram r b 0) + r i 1 * det3 (cram r b 1) + r i 2 * det3 (cram r b 2) = b i * det3 r := by
  have hc : i = 0 ∨ i = 1 ∨ i = 2 := by omega
  rcases hc with rfl | rfl | rfl <;> simp [det3, cram] <;> grind
theorem cramer {r : Nat → Nat → Rat} {b : Nat → Rat} (hd : det3 r ≠ 0) : Sol (aug r b) (det3 (cram r b 0) / det3 r) (det3 (cram r b 1) / det3 r) (det3 (cram r b 2) / det3 r) := by
  have hi := inv_mul hd
  intro i hi3
  have h := cramer0 (r := r) (b := b) hi3
  simp only [Rat.div_def, aug] at *
  simp
  generalize det3 r = d at *
  generalize d⁻¹ = u at *
  grind
theorem det2_mul {p q : Nat → Nat → Rat} : (p 0 0 * q 0 0 + p 0 1 * q 1 0) * (p 1 0 * q 0 1 + p 1 1 * q 1 1) + -((p 0 0 * q 0 1 + p 0 1 * q 1 1) * (p 1 0 * q 0 0 + p 1 1 * q 1 0)) = det2 p * det2 q := by
  simp only [det2]; grind
theorem det2_turn {p : Nat → Nat → Rat} : p 1 0 * p 0 1 + -(p 1 1 * p 0 0) = -det2 p := by
  simp only [det2]; grind
theorem det2_often {q : Nat → Nat → Rat} {o : Rat} : (o * q 0 0) * (o * q 1 1) + -((o * q 0 1) * (o * q 1 0)) = o * o * det2 q := by
  simp only [det2]; grind
end Mine
namespace Mine
theorem mul_den {q : Rat} : q * ((q.den : Int) : Rat) = (q.num : Rat) := by
  have h : Rat.divInt q.num q.den = q := Rat.num_divInt_den q
  have hd : ((q.den : Int) : Rat) ≠ 0 := fun e => q.den_nz (by exact_mod_cast e)
  rw [Rat.divInt_eq_div] at h
  have hi := Rat.mul_inv_cancel _ hd
  rw [Rat.div_def] at h
  generalize ((q.den : Int) : Rat) = d at *
  generalize (q.num : Rat) = n at *
  generalize d⁻¹ = u at *
  grind
theorem fdiv_mul {d c : Int} (h : d ≠ 0) : (d * c).fdiv d = c := Int.mul_fdiv_cancel_left _ h
theorem num_times {q : Rat} {m : Int} (h : (q.den : Int) ∣ m) : ((q.num * m.fdiv q.den : Int) : Rat) = (m : Rat) * q := by
  obtain ⟨c, rfl⟩ := h
  rw [fdiv_mul (by have := q.den_nz; omega), Rat.intCast_mul, Rat.intCast_mul, ← mul_den]
  grind
theorem whole_law {r0 r1 r2 x y z b : Rat} (h0 : r0.den ∣ 6) (h1 : r1.den ∣ 6) (h2 : r2.den ∣ 6) (hb : b.den = 1) (hs : r0 * x + r1 * y + r2 * z = b) {most : Int} (hm : most = x.den * y.den * z.den) :
    0 + r0.num * (6 : Int).fdiv r0.den * x.num * most.fdiv x.den + r1.num * (6 : Int).fdiv r1.den * y.num * most.fdiv y.den + r2.num * (6 : Int).fdiv r2.den * z.num * most.fdiv z.den = b.num * 6 * most := by
  apply Rat.intCast_inj.mp
  have a0 := num_times (q := r0) (m := 6) (by exact_mod_cast Int.natCast_dvd_natCast.mpr h0)
  have a1 := num_times (q := r1) (m := 6) (by exact_mod_cast Int.natCast_dvd_natCast.mpr h1)
  have a2 := num_times (q := r2) (m := 6) (by exact_mod_cast Int.natCast_dvd_natCast.mpr h2)
  have m0 := num_times (q := x) (m := most) ⟨(y.den : Int) * z.den, by rw [hm]; grind⟩
  have m1 := num_times (q := y) (m := most) ⟨(x.den : Int) * z.den, by rw [hm]; grind⟩
  have m2 := num_times (q := z) (m := most) ⟨(x.den : Int) * y.den, by rw [hm]; grind⟩
  have eb : (b.num : Rat) = b := by
    have := mul_den (q := b)
    rw [hb] at this
    rw [← this]; grind
  simp only [Rat.intCast_mul, Rat.intCast_add] at *
  rw [eb]
  grind
theorem rnd_near (p : Rat) : 2 * p.num - 2 * rndR p * p.den ≤ p.den ∧ -(p.den : Int) ≤ 2 * p.num - 2 * rndR p * p.den := by
  have hd : 0 < (p.den : Int) := by have := p.den_nz; omega
  have key : ∀ n d : Int, 0 < d → 2 * n - 2 * ((2 * n + d).fdiv (2 * d)) * d ≤ d ∧ -d ≤ 2 * n - 2 * ((2 * n + d).fdiv (2 * d)) * d := by
    intro n d hd
    rw [Int.fdiv_eq_ediv_of_nonneg _ (by omega)]
    have e1 := Int.emod_add_mul_ediv (2 * n + d) (2 * d)
    have e2 := Int.emod_nonneg (2 * n + d) (b := 2 * d) (by omega)
    have e3 := Int.emod_lt_of_pos (2 * n + d) (b := 2 * d) (by omega)
    generalize (2 * n + d) / (2 * d) = q at *
    generalize (2 * n + d) % (2 * d) = r at *
    have : 2 * q * d = 2 * d * q := by grind
    omega
  unfold rndR
  split
  · have := key (-p.num) p.den hd
    rw [Int.mul_neg 2, Int.neg_mul]
    omega
  · have := key p.num p.den hd
    omega
theorem den_posR (p : Rat) : (0 : Rat) < ((p.den : Int) : Rat) := by
  have : 0 < (p.den : Int) := by have := p.den_nz; omega
  exact_mod_cast this
theorem rnd_le (p : Rat) : p - (rndR p : Rat) ≤ 1 / 2 := by
  have h := (rnd_near p).1
  have hd := den_posR p
  have e := mul_den (q := p)
  have h2 : ((2 * p.num - 2 * rndR p * p.den : Int) : Rat) ≤ ((p.den : Int) : Rat) := Rat.intCast_le_intCast.mpr h
  rw [Rat.intCast_sub, Rat.intCast_mul, Rat.intCast_mul, Rat.intCast_mul, ← e] at h2
  apply Rat.not_lt.mp
  intro hc
  have h3 : (0 : Rat) < (p - (rndR p : Rat) - 1 / 2) * ((p.den : Int) : Rat) := Rat.mul_pos (by grind) hd
  grind
theorem rnd_ge (p : Rat) : -(1 / 2) ≤ p - (rndR p : Rat) := by
  have h := (rnd_near p).2
  have hd := den_posR p
  have e := mul_den (q := p)
  have h2 : ((-(p.den : Int) : Int) : Rat) ≤ ((2 * p.num - 2 * rndR p * p.den : Int) : Rat) := Rat.intCast_le_intCast.mpr h
  rw [Rat.intCast_sub, Rat.intCast_mul, Rat.intCast_mul, Rat.intCast_mul, ← e, Rat.intCast_neg] at h2
  apply Rat.not_lt.mp
  intro hc
  have h3 : (0 : Rat) < (-(1/2) - (p - (rndR p : Rat))) * ((p.den : Int) : Rat) := Rat.mul_pos (by grind) hd
  grind
end Mine
end
section
open PySem PySem.W PyProof.Rows PySem.Calls PySem.Spec PyProof.V
set_option Elab.async false
set_option maxRecDepth 100000
set_option maxHeartbeats 8000000
namespace Mine
section
variable {prog : Program} {w : World} {A : Around} {E : Value → Shared → Prop} {s : Shared} {h₀ : Heap} {L a b : Addr} {news : List (Addr × Obj)} {p q : Rat} {n1 n2 d1 d2 : Int} {t1 t2 t3 t4 : Tok} {c1 c2 : Nat} {Q : Value → Shared → Prop}
theorem eqK_rats (N : News h₀ L s.heap news) (ha : (a, tup2 n1 t1 d1 t2 c1) ∈ news) (hb : (b, tup2 n2 t3 d2 t4 c2) ∈ news) (i1 : n1 = p.num) (i2 : d1 = p.den) (i3 : n2 = q.num) (i4 : d2 = q.den) (hu : A.units + 64 < cLine) (e : p = q) (h : Q (.bool true) s) :
    wpAny (model prog w) A (compareOp .Eq (.ref a) (.ref b)) Q E s :=
  eq_rats N ha hb i1 i2 i3 i4 hu (by rw [decide_eq_true e]; exact h)
theorem neK_rats (N : News h₀ L s.heap news) (ha : (a, tup2 n1 t1 d1 t2 c1) ∈ news) (hb : (b, tup2 n2 t3 d2 t4 c2) ∈ news) (i1 : n1 = p.num) (i2 : d1 = p.den) (i3 : n2 = q.num) (i4 : d2 = q.den) (hu : A.units + 64 < cLine) (e : p = q) (h : Q (.bool false) s) :
    wpAny (model prog w) A (compareOp .NotEq (.ref a) (.ref b)) Q E s :=
  ne_rats N ha hb i1 i2 i3 i4 hu (by rw [decide_eq_true e]; exact h)
theorem neK_lists {l1 l2 a0 a1 a2 b0 b1 b2 : Addr} {k1 k2 e0 e1 e2 f0 f1 f2 : Nat} {x0 x1 x2 y0 y1 y2 : Rat} {s0 s1 s2 u0 u1 u2 r0 r1 r2 v0 v1 v2 : Tok} (N : News h₀ L s.heap news) (h1 : (l1, listObj [.ref a0, .ref a1, .ref a2] k1) ∈ news) (h2 : (l2, listObj [.ref b0, .ref b1, .ref b2] k2) ∈ news)
    (m0 : (a0, tup2 x0.num s0 x0.den u0 e0) ∈ news) (m1 : (a1, tup2 x1.num s1 x1.den u1 e1) ∈ news) (m2 : (a2, tup2 x2.num s2 x2.den u2 e2) ∈ news) (n0 : (b0, tup2 y0.num r0 y0.den v0 f0) ∈ news) (n1 : (b1, tup2 y1.num r1 y1.den v1 f1) ∈ news) (n2 : (b2, tup2 y2.num r2 y2.den v2 f2) ∈ news)
    (w0 : x0 = y0) (w1 : x1 = y1) (w2 : x2 = y2) (hu : A.units + 64 < cLine) (h : Q (.bool false) s) : wpAny (model prog w) A (compareOp .NotEq (.ref l1) (.ref l2)) Q E s := by
  subst w0 w1 w2
  have T : ∀ {a : Addr} {x : Rat} {t u : Tok} {k : Nat}, (a, tup2 x.num t x.den u k) ∈ news → Reads s.heap (.ref a) (.tuple [.int x.num, .int x.den]) [] := fun hm => reads_tuple_at (News.get N hm) rfl rfl (.cons (.int _ _) (.cons (.int _ _) .nil))
  refine ne_dataH (reads_list_at (News.get N h1) rfl rfl (.cons (T m0) (.cons (T m1) (.cons (T m2) .nil)))) (reads_list_at (News.get N h2) rfl rfl (.cons (T n0) (.cons (T n1) (.cons (T n2) .nil)))) rfl rfl hu ?_
  have e : PyData.eqv (.list [.tuple [.int x0.num, .int x0.den], .tuple [.int x1.num, .int x1.den], .tuple [.int x2.num, .int x2.den]]) (.list [.tuple [.int x0.num, .int x0.den], .tuple [.int x1.num, .int x1.den], .tuple [.int x2.num, .int x2.den]]) = true := by
    simp [PyData.eqv, PyData.eqvAll]
  rw [e]; exact h
end
section
variable {w : World} {mean : ExcName → Option Value} {mg mb : Str → Option Value} {news : List (Addr × Obj)}
  {dp un : Nat} {gd : Option (List Code)} {cn : Str} {cs : Scope} {a : Addr} {ccd : Value} {cl : List (Str × Addr)} {outer : List Env} {A₀ : Around} {base h₀ : Heap} {L : Addr} {m : Str → Option Value} {s : Shared} {Q E : Value → Shared → Prop}
theorem power_use {x : Addr} {p : Rat} {e : Nat} {n1 d1 : Int} {t1 t2 t3 : Tok} {c1 : Nat} (B : Below A₀ base outer h₀) (F : Fr h₀ L s.heap m) (X : (hd.heap_39 w.params).In h₀) (N : News h₀ L s.heap news) (T : Top hd.view_39 LO mean mg mb h₀) (hk : cs.kind = .function) (hd : dp + 4 < recursionLimit) (hu : un + 8 * 4 < cLine) (G : Great mg) (hx : (x, tup2 n1 t1 d1 t2 c1) ∈ news) (i1 : n1 = p.num) (i2 : d1 = p.den) (hp : Sz e p) (hs : 2 * e + 1 ≤ 2300)
    (ret : ∀ D u1 u2 c h' tk', Fr h₀ L h' m → News h₀ L h' ((D, tup2 (p * p).num u1 (p * p).den u2 c) :: news) → AllLt D news → Sz (e + e) (p * p) → Q (.ref D) { s with heap := h', toks := tk' }) :
    wpAny (model PR w) (ktrTop dp un gd cn cs L a ccd cl outer) (call (.ref 109) [.ref x, .int 2 t3]) Q E s :=
  use_rat (power_does w mean mg mb G news x p e n1 d1 t1 t2 t3 c1 i1 i2 hx hp hs) B F X N T hk hd hu fun D u1 u2 c h' tk' F' N' l => ret D u1 u2 c h' tk' F' N' l (Sz.mul hp hp)
theorem rounded_use {x : Addr} {p : Rat} {e : Nat} {n1 d1 : Int} {t1 t2 : Tok} {c1 : Nat} (B : Below A₀ base outer h₀) (F : Fr h₀ L s.heap m) (X : (hd.heap_39 w.params).In h₀) (N : News h₀ L s.heap news) (T : Top hd.view_39 LO mean mg mb h₀) (hk : cs.kind = .function) (hd : dp + 1 < recursionLimit) (hu : un + 8 * 1 < cLine) (hx : (x, tup2 n1 t1 d1 t2 c1) ∈ news) (i1 : n1 = p.num) (i2 : d1 = p.den) (hp : Sz e p) (hs : e ≤ 2300)
    (ret : ∀ u h' tk', Fr h₀ L h' m → News h₀ L h' news → Q (.int (rndR p) u) { s with heap := h', toks := tk' }) :
    wpAny (model PR w) (ktrTop dp un gd cn cs L a ccd cl outer) (call (.ref 123) [.ref x]) Q E s :=
  use_int (rounded_does w mean mg mb news x p e n1 d1 t1 t2 c1 i1 i2 hx hp hs) B F X N T hk hd hu fun u h' tk' F' N' => ret u h' tk' F' N'
theorem solved_law {all : List (Addr × Obj)} {r : Nat → Nat → Rat} {b : Nat → Rat} {xD : Addr} {xc : Nat} {xr0 : Addr} {xc0 : Nat} {xr1 : Addr} {xc1 : Nat} {xr2 : Addr} {xc2 : Nat} {xa00 : Addr} {xs00 xu00 : Tok} {xk00 : Nat} {xa01 : Addr} {xs01 xu01 : Tok} {xk01 : Nat} {xa02 : Addr} {xs02 xu02 : Tok} {xk02 : Nat} {xa10 : Addr} {xs10 xu10 : Tok} {xk10 : Nat} {xa11 : Addr} {xs11 xu11 : Tok} {xk11 : Nat} {xa12 : Addr} {xs12 xu12 : Tok} {xk12 : Nat} {xa20 : Addr} {xs20 xu20 : Tok} {xk20 : Nat} {xa21 : Addr} {xs21 xu21 : Tok} {xk21 : Nat} {xa22 : Addr} {xs22 xu22 : Tok} {xk22 : Nat} {gD : Addr} {gc : Nat} {ga0 : Addr} {gs0 gu0 : Tok} {gk0 : Nat} {ga1 : Addr} {gs1 gu1 : Tok} {gk1 : Nat} {ga2 : Addr} {gs2 gu2 : Tok} {gk2 : Nat} (B : Below A₀ base outer h₀) (F : Fr h₀ L s.heap m) (X : (hd.heap_39 w.params).In h₀) (N : News h₀ L s.heap all) (T : Top hd.view_39 LO mean mg mb h₀) (hk : cs.kind = .function) (hd : dp + 10 < recursionLimit) (hu : un + 8 * 10 < cLine) (G : Great mg) (xl : (xD, listObj [.ref xr0, .ref xr1, .ref xr2] xc) ∈ all) (xh0 : (xr0, listObj [.ref xa00, .ref xa01, .ref xa02] xc0) ∈ all) (xh1 : (xr1, listObj [.ref xa10, .ref xa11, .ref xa12] xc1) ∈ all) (xh2 : (xr2, listObj [.ref xa20, .ref xa21, .ref xa22] xc2) ∈ all) (xm00 : (xa00, tup2 (r 0 0).num xs00 (r 0 0).den xu00 xk00) ∈ all) (xz00 : Sz 2 (r 0 0)) (xm01 : (xa01, tup2 (r 0 1).num xs01 (r 0 1).den xu01 xk01) ∈ all) (xz01 : Sz 2 (r 0 1)) (xm02 : (xa02, tup2 (r 0 2).num xs02 (r 0 2).den xu02 xk02) ∈ all) (xz02 : Sz 2 (r 0 2)) (xm10 : (xa10, tup2 (r 1 0).num xs10 (r 1 0).den xu10 xk10) ∈ all) (xz10 : Sz 2 (r 1 0)) (xm11 : (xa11, tup2 (r 1 1).num xs11 (r 1 1).den xu11 xk11) ∈ all) (xz11 : Sz 2 (r 1 1)) (xm12 : (xa12, tup2 (r 1 2).num xs12 (r 1 2).den xu12 xk12) ∈ all) (xz12 : Sz 2 (r 1 2)) (xm20 : (xa20, tup2 (r 2 0).num xs20 (r 2 0).den xu20 xk20) ∈ all) (xz20 : Sz 2 (r 2 0)) (xm21 : (xa21, tup2 (r 2 1).num xs21 (r 2 1).den xu21 xk21) ∈ all) (xz21 : Sz 2 (r 2 1)) (xm22 : (xa22, tup2 (r 2 2).num xs22 (r 2 2).den xu22 xk22) ∈ all) (xz22 : Sz 2 (r 2 2)) (gl : (gD, listObj [.ref ga0, .ref ga1, .ref ga2] gc) ∈ all) (gm0 : (ga0, tup2 (b 0).num gs0 (b 0).den gu0 gk0) ∈ all) (gz0 : Sz 2 (b 0)) (gm1 : (ga1, tup2 (b 1).num gs1 (b 1).den gu1 gk1) ∈ all) (gz1 : Sz 2 (b 1)) (gm2 : (ga2, tup2 (b 2).num gs2 (b 2).den gu2 gk2) ∈ all) (gz2 : Sz 2 (b 2)) (hnz : det3 r ≠ 0)
    (ret : ∀ x0 x1 x2 D c a0 s0 u0 k0 a1 s1 u1 k1 a2 s2 u2 k2 tl h' tk', Sol (aug r b) x0 x1 x2 → Fr h₀ L h' m → News h₀ L h' (tl ++ all) → (D, listObj [.ref a0, .ref a1, .ref a2] c) ∈ tl ++ all → (a0, tup2 x0.num s0 x0.den u0 k0) ∈ tl ++ all → Sz 70 x0 → (a1, tup2 x1.num s1 x1.den u1 k1) ∈ tl ++ all → Sz 70 x1 → (a2, tup2 x2.num s2 x2.den u2 k2) ∈ tl ++ all → Sz 70 x2 → (∀ p ∈ tl, ∀ q ∈ all, q.1 ≠ p.1) → Q (.ref D) { s with heap := h', toks := tk' }) :
    wpAny (model PR w) (ktrTop dp un gd cn cs L a ccd cl outer) (call (.ref 170) [.ref xD, .ref gD]) Q E s := by
  refine solved_does w mean mg mb G all xD xc xr0 xc0 xr1 xc1 xr2 xc2 xa00 (r 0 0) xs00 xu00 xk00 xa01 (r 0 1) xs01 xu01 xk01 xa02 (r 0 2) xs02 xu02 xk02 xa10 (r 1 0) xs10 xu10 xk10 xa11 (r 1 1) xs11 xu11 xk11 xa12 (r 1 2) xs12 xu12 xk12 xa20 (r 2 0) xs20 xu20 xk20 xa21 (r 2 1) xs21 xu21 xk21 xa22 (r 2 2) xs22 xu22 xk22 xl xh0 xh1 xh2 xm00 xz00 xm01 xz01 xm02 xz02 xm10 xz10 xm11 xz11 xm12 xz12 xm20 xz20 xm21 xz21 xm22 xz22 gD gc ga0 (b 0) gs0 gu0 gk0 ga1 (b 1) gs1 gu1 gk1 ga2 (b 2) gs2 gu2 gk2 gl gm0 gz0 gm1 gz1 gm2 gz2 hnz dp un gd cn cs a ccd cl outer A₀ base h₀ L m s Q E B F X N T hk hd hu ?_
  rintro _ news' h' tk' F' N' ⟨D, c, a0, s0, u0, k0, a1, s1, u1, k1, a2, s2, u2, k2, tl, rfl, mD, m0, m1, m2, z0, z1, z2, rfl, ap⟩
  exact ret _ _ _ D c a0 s0 u0 k0 a1 s1 u1 k1 a2 s2 u2 k2 tl h' tk' (cramer hnz) F' N' mD m0 z0 m1 z1 m2 z2 ap
theorem taken22_use {all : List (Addr × Obj)} (M : Nat → Nat → Rat) {xD : Addr} {xc : Nat} {xr0 : Addr} {xc0 : Nat} {xr1 : Addr} {xc1 : Nat} {xa00 : Addr} {xp00 : Rat} {xs00 xu00 : Tok} {xk00 : Nat} {xa01 : Addr} {xp01 : Rat} {xs01 xu01 : Tok} {xk01 : Nat} {xa10 : Addr} {xp10 : Rat} {xs10 xu10 : Tok} {xk10 : Nat} {xa11 : Addr} {xp11 : Rat} {xs11 xu11 : Tok} {xk11 : Nat} (B : Below A₀ base outer h₀) (F : Fr h₀ L s.heap m) (X : (hd.heap_39 w.params).In h₀) (N : News h₀ L s.heap all) (T : Top hd.view_39 LO mean mg mb h₀) (hk : cs.kind = .function) (hd : dp + 16 < recursionLimit) (hu : un + 8 * 16 < cLine) (G : Great mg) (xl : (xD, listObj [.ref xr0, .ref xr1] xc) ∈ all) (xh0 : (xr0, listObj [.ref xa00, .ref xa01] xc0) ∈ all) (xh1 : (xr1, listObj [.ref xa10, .ref xa11] xc1) ∈ all) (xm00 : (xa00, tup2 xp00.num xs00 xp00.den xu00 xk00) ∈ all) (xm01 : (xa01, tup2 xp01.num xs01 xp01.den xu01 xk01) ∈ all) (xm10 : (xa10, tup2 xp10.num xs10 xp10.den xu10 xk10) ∈ all) (xm11 : (xa11, tup2 xp11.num xs11 xp11.den xu11 xk11) ∈ all) (xz00 : Sz 2 xp00) (xz01 : Sz 2 xp01) (xz10 : Sz 2 xp10) (xz11 : Sz 2 xp11) (w00 : xp00 = M 0 0) (w01 : xp01 = M 0 1) (w10 : xp10 = M 1 0) (w11 : xp11 = M 1 1)
    (ret : ∀ T cT RR vs cR Fd q sf uf kf P tl h' tk', Fr h₀ L h' m → News h₀ L h' (tl ++ all) → (T, tupR RR Fd cT) ∈ tl ++ all → (RR, listObj vs cR) ∈ tl ++ all → (Fd, tup2 q.num sf q.den uf kf) ∈ tl ++ all → Sz 475 q → RowsAt 2 2 (tl ++ all) vs P (fun _ => 475) → (∀ p ∈ tl, ∀ q ∈ all, q.1 ≠ p.1) →
      q = det2 M → Q (.ref T) { s with heap := h', toks := tk' }) :
    wpAny (model PR w) (ktrTop dp un gd cn cs L a ccd cl outer) (call (.ref 160) [.ref xD]) Q E s := by
  subst w00 w01 w10 w11
  exact taken22_law (Sh2 M) M (sh2_0 M) (sh2_sw M) (sh2_el M) B F X N T hk hd hu G xl xh0 xh1 xm00 xm01 xm10 xm11 xz00 xz01 xz10 xz11 (fun T cT RR vs cR Fd q sf uf kf P tl h' tk' F' N' h1 h2 h3 hz hr ap hp => ret T cT RR vs cR Fd q sf uf kf P tl h' tk' F' N' h1 h2 h3 hz hr ap (taken2_det hp))
theorem taken34_use {all : List (Addr × Obj)} (M : Nat → Nat → Rat) {xD : Addr} {xc : Nat} {xr0 : Addr} {xc0 : Nat} {xr1 : Addr} {xc1 : Nat} {xr2 : Addr} {xc2 : Nat} {xa00 : Addr} {xp00 : Rat} {xs00 xu00 : Tok} {xk00 : Nat} {xa01 : Addr} {xp01 : Rat} {xs01 xu01 : Tok} {xk01 : Nat} {xa02 : Addr} {xp02 : Rat} {xs02 xu02 : Tok} {xk02 : Nat} {xa03 : Addr} {xp03 : Rat} {xs03 xu03 : Tok} {xk03 : Nat} {xa10 : Addr} {xp10 : Rat} {xs10 xu10 : Tok} {xk10 : Nat} {xa11 : Addr} {xp11 : Rat} {xs11 xu11 : Tok} {xk11 : Nat} {xa12 : Addr} {xp12 : Rat} {xs12 xu12 : Tok} {xk12 : Nat} {xa13 : Addr} {xp13 : Rat} {xs13 xu13 : Tok} {xk13 : Nat} {xa20 : Addr} {xp20 : Rat} {xs20 xu20 : Tok} {xk20 : Nat} {xa21 : Addr} {xp21 : Rat} {xs21 xu21 : Tok} {xk21 : Nat} {xa22 : Addr} {xp22 : Rat} {xs22 xu22 : Tok} {xk22 : Nat} {xa23 : Addr} {xp23 : Rat} {xs23 xu23 : Tok} {xk23 : Nat} (B : Below A₀ base outer h₀) (F : Fr h₀ L s.heap m) (X : (hd.heap_39 w.params).In h₀) (N : News h₀ L s.heap all) (T : Top hd.view_39 LO mean mg mb h₀) (hk : cs.kind = .function) (hd : dp + 16 < recursionLimit) (hu : un + 8 * 16 < cLine) (G : Great mg) (xl : (xD, listObj [.ref xr0, .ref xr1, .ref xr2] xc) ∈ all) (xh0 : (xr0, listObj [.ref xa00, .ref xa01, .ref xa02, .ref xa03] xc0) ∈ all) (xh1 : (xr1, listObj [.ref xa10, .ref xa11, .ref xa12, .ref xa13] xc1) ∈ all) (xh2 : (xr2, listObj [.ref xa20, .ref xa21, .ref xa22, .ref xa23] xc2) ∈ all) (xm00 : (xa00, tup2 xp00.num xs00 xp00.den xu00 xk00) ∈ all) (xm01 : (xa01, tup2 xp01.num xs01 xp01.den xu01 xk01) ∈ all) (xm02 : (xa02, tup2 xp02.num xs02 xp02.den xu02 xk02) ∈ all) (xm03 : (xa03, tup2 xp03.num xs03 xp03.den xu03 xk03) ∈ all) (xm10 : (xa10, tup2 xp10.num xs10 xp10.den xu10 xk10) ∈ all) (xm11 : (xa11, tup2 xp11.num xs11 xp11.den xu11 xk11) ∈ all) (xm12 : (xa12, tup2 xp12.num xs12 xp12.den xu12 xk12) ∈ all) (xm13 : (xa13, tup2 xp13.num xs13 xp13.den xu13 xk13) ∈ all) (xm20 : (xa20, tup2 xp20.num xs20 xp20.den xu20 xk20) ∈ all) (xm21 : (xa21, tup2 xp21.num xs21 xp21.den xu21 xk21) ∈ all) (xm22 : (xa22, tup2 xp22.num xs22 xp22.den xu22 xk22) ∈ all) (xm23 : (xa23, tup2 xp23.num xs23 xp23.den xu23 xk23) ∈ all) (xz00 : Sz 2 xp00) (xz01 : Sz 2 xp01) (xz02 : Sz 2 xp02) (xz03 : Sz 2 xp03) (xz10 : Sz 2 xp10) (xz11 : Sz 2 xp11) (xz12 : Sz 2 xp12) (xz13 : Sz 2 xp13) (xz20 : Sz 2 xp20) (xz21 : Sz 2 xp21) (xz22 : Sz 2 xp22) (xz23 : Sz 2 xp23) (w00 : xp00 = M 0 0) (w01 : xp01 = M 0 1) (w02 : xp02 = M 0 2) (w03 : xp03 = M 0 3) (w10 : xp10 = M 1 0) (w11 : xp11 = M 1 1) (w12 : xp12 = M 1 2) (w13 : xp13 = M 1 3) (w20 : xp20 = M 2 0) (w21 : xp21 = M 2 1) (w22 : xp22 = M 2 2) (w23 : xp23 = M 2 3)
    (ret : ∀ T cT RR vs cR Fd q sf uf kf P tl h' tk', Fr h₀ L h' m → News h₀ L h' (tl ++ all) → (T, tupR RR Fd cT) ∈ tl ++ all → (RR, listObj vs cR) ∈ tl ++ all → (Fd, tup2 q.num sf q.den uf kf) ∈ tl ++ all → Sz 475 q → RowsAt 3 4 (tl ++ all) vs P (fun _ => 475) → (∀ p ∈ tl, ∀ q ∈ all, q.1 ≠ p.1) →
      TakenR3 M P q → Q (.ref T) { s with heap := h', toks := tk' }) :
    wpAny (model PR w) (ktrTop dp un gd cn cs L a ccd cl outer) (call (.ref 160) [.ref xD]) Q E s := by
  subst w00 w01 w02 w03 w10 w11 w12 w13 w20 w21 w22 w23
  exact taken34_law (Sh3 M) M (sh3_0 M) (sh3_sw M) (sh3_el M) B F X N T hk hd hu G xl xh0 xh1 xh2 xm00 xm01 xm02 xm03 xm10 xm11 xm12 xm13 xm20 xm21 xm22 xm23 xz00 xz01 xz02 xz03 xz10 xz11 xz12 xz13 xz20 xz21 xz22 xz23 (fun T cT RR vs cR Fd q sf uf kf P tl h' tk' F' N' h1 h2 h3 hz hr ap hp => ret T cT RR vs cR Fd q sf uf kf P tl h' tk' F' N' h1 h2 h3 hz hr ap (hp))
end
end Mine
end
section
open PySem PySem.W PyProof.Rows PySem.Calls PySem.Spec PyProof.V
set_option Elab.async false
set_option maxRecDepth 100000
set_option maxHeartbeats 8000000
namespace Mine
theorem mem_sub {α : Type} {a : α} {l l' : List α} (h : ∀ p ∈ l, p ∈ l') (hm : a ∈ l) : a ∈ l' := h a hm
theorem grown {tl rest : List (Addr × Obj)} : ∃ rest2, rest2 = tl ++ rest ∧ (∀ p ∈ tl, p ∈ rest2) ∧ (∀ p ∈ rest, p ∈ rest2) := ⟨_, rfl, fun _ h => List.mem_append_left _ h, fun _ h => List.mem_append_right _ h⟩
theorem grow_then {G : Prop} {h₀ h : Heap} {L : Addr} {tl rest l l' : List (Addr × Obj)} (N : News h₀ L h (tl ++ l)) (g : Grow tl rest l l') (k : News h₀ L h l' → G) : G := k (Grow.news N g)
theorem grow_off {tl rest all rest2 : List (Addr × Obj)} {c : Addr} {o : Obj} (e : rest2 = tl ++ rest) (ap : ∀ p ∈ tl, ∀ q ∈ all, q.1 ≠ p.1) (hm : (c, o) ∈ all) (h : ∀ p ∈ rest, p.1 ≠ c) : ∀ p ∈ rest2, p.1 ≠ c := by
  subst e
  intro p hp
  rcases List.mem_append.mp hp with hp | hp
  · exact Ne.symm (ap p hp _ hm)
  · exact h p hp
theorem Ent.sz {q : Rat} (h : Ent q) : Sz 2 q := h.1
theorem den_one (n : Int) : (Rat.divInt n 1).den = 1 := by
  rw [Rat.den_divInt]; simp
theorem dens (x y z : Int) : ∀ j, j < 3 → (r3 (Rat.divInt x 1) (Rat.divInt y 1) (Rat.divInt z 1) j).den = 1
  | 0, _ => den_one x
  | 1, _ => den_one y
  | 2, _ => den_one z
def Has (mm : Str → Option Value) (x : String) (rest : List (Addr × Obj)) (q : Rat) (e : Nat) : Prop := ∃ a s u k, mm (PySem.Str.ofString x) = some (.ref a) ∧ (a, tup2 q.num s q.den u k) ∈ rest ∧ Sz e q
theorem Has.sub {mm mm' : Str → Option Value} {x : String} {rest rest' : List (Addr × Obj)} {q : Rat} {e : Nat} (h : Has mm x rest q e) (hs : ∀ p ∈ rest, p ∈ rest') (hm : mm' (PySem.Str.ofString x) = mm (PySem.Str.ofString x)) : Has mm' x rest' q e :=
  let ⟨a, s, u, k, h1, h2, h3⟩ := h
  ⟨a, s, u, k, hm.trans h1, hs _ h2, h3⟩
def Core (one other rows goals : Addr) (p q r : Nat → Nat → Rat) (b : Nat → Rat) (rest : List (Addr × Obj)) : Prop :=
  MatAt 2 2 rest one p 2 ∧ MatAt 2 2 rest other q 2 ∧ MatAt 3 3 rest rows r 2 ∧ RowAt 3 rest goals b 2
theorem Core.sub {one other rows goals : Addr} {p q r : Nat → Nat → Rat} {b : Nat → Rat} {rest rest' : List (Addr × Obj)} (h : Core one other rows goals p q r b rest) (hs : ∀ x ∈ rest, x ∈ rest') : Core one other rows goals p q r b rest' :=
  ⟨h.1.sub hs, h.2.1.sub hs, h.2.2.1.sub hs, h.2.2.2.sub hs (fun _ _ => rfl) (Nat.le_refl _)⟩

theorem Del.app {I : Addr} {it : Obj} {tl : List (Addr × Obj)} : ∀ {l l' : List (Addr × Obj)}, (∀ p ∈ tl, p.1 ≠ I) → Del I it l l' → Del I it (tl ++ l) (tl ++ l') := by
  intro l l' h d
  induction tl with
  | nil => exact d
  | cons a t ih => exact Del.tail (h a (.head _)) (ih fun p hp => h p (.tail _ hp))
theorem ap_off {tl all : List (Addr × Obj)} {c : Addr} {o : Obj} (ap : ∀ p ∈ tl, ∀ q ∈ all, q.1 ≠ p.1) (hm : (c, o) ∈ all) : ∀ p ∈ tl, p.1 ≠ c := fun p hp => Ne.symm (ap p hp _ hm)
theorem mem_app {tl l l' : List (Addr × Obj)} (h : ∀ p ∈ l, p ∈ l') : ∀ p ∈ l, p ∈ tl ++ l' := fun p hp => List.mem_append_right _ (h p hp)
theorem Del.left {I : Addr} {it : Obj} : ∀ {l l' : List (Addr × Obj)}, Del I it l l' → ∀ p ∈ l, p ≠ (I, it) → p ∈ l'
  | _, _, .head _, p, hp, hne => by
    rcases List.mem_cons.mp hp with e | hp
    · exact absurd e hne
    · exact hp
  | _, _, .tail _ d, p, hp, hne => by
    rcases List.mem_cons.mp hp with rfl | hp
    · exact .head _
    · exact .tail _ (d.left p hp hne)
theorem ne_cell {p : Addr × Obj} {I : Addr} {it : Obj} {v : Option Value} (d : it.data = .cell v) (h : ∀ v, p.2.data ≠ .cell v) : p ≠ (I, it) := fun e => h v (by rw [e]; exact d)
theorem rebase {G : Prop} {h₀ h : Heap} {L : Addr} {o1 o2 o3 o4 o5 o6 o7 : Obj} {v1 v2 v3 v4 v5 v6 v7 : Option Value} {all : List (Addr × Obj)} (N : News h₀ L h all)
    (m1 : (L + 1, o1) ∈ all) (m2 : (L + 1 + 1, o2) ∈ all) (m3 : (L + 1 + 1 + 1, o3) ∈ all) (m4 : (L + 1 + 1 + 1 + 1, o4) ∈ all) (m5 : (L + 1 + 1 + 1 + 1 + 1, o5) ∈ all) (m6 : (L + 1 + 1 + 1 + 1 + 1 + 1, o6) ∈ all) (m7 : (L + 1 + 1 + 1 + 1 + 1 + 1 + 1, o7) ∈ all) (d1 : o1.data = .cell v1) (d2 : o2.data = .cell v2) (d3 : o3.data = .cell v3) (d4 : o4.data = .cell v4) (d5 : o5.data = .cell v5) (d6 : o6.data = .cell v6) (d7 : o7.data = .cell v7)
    (k : ∀ rest2, (∀ p ∈ all, p.1 ≠ L + 1 → p.1 ≠ L + 1 + 1 → p.1 ≠ L + 1 + 1 + 1 → p.1 ≠ L + 1 + 1 + 1 + 1 → p.1 ≠ L + 1 + 1 + 1 + 1 + 1 → p.1 ≠ L + 1 + 1 + 1 + 1 + 1 + 1 → p.1 ≠ L + 1 + 1 + 1 + 1 + 1 + 1 + 1 → p ∈ rest2) → (∀ p ∈ all, (∀ v, p.2.data ≠ .cell v) → p ∈ rest2) → News h₀ L h ((L + 1 + 1 + 1 + 1 + 1 + 1 + 1, o7) :: (L + 1 + 1 + 1 + 1 + 1 + 1, o6) :: (L + 1 + 1 + 1 + 1 + 1, o5) :: (L + 1 + 1 + 1 + 1, o4) :: (L + 1 + 1 + 1, o3) :: (L + 1 + 1, o2) :: (L + 1, o1) :: rest2) → (∀ p ∈ rest2, p.1 ≠ L + 1) → (∀ p ∈ rest2, p.1 ≠ L + 1 + 1) → (∀ p ∈ rest2, p.1 ≠ L + 1 + 1 + 1) → (∀ p ∈ rest2, p.1 ≠ L + 1 + 1 + 1 + 1) → (∀ p ∈ rest2, p.1 ≠ L + 1 + 1 + 1 + 1 + 1) → (∀ p ∈ rest2, p.1 ≠ L + 1 + 1 + 1 + 1 + 1 + 1) → (∀ p ∈ rest2, p.1 ≠ L + 1 + 1 + 1 + 1 + 1 + 1 + 1) → G) : G := by
  have nc : ∀ (c : Addr) (o : Obj) (v : Option Value), (c, o) ∈ all → o.data = .cell v → ∀ p ∈ all, (∀ v, p.2.data ≠ .cell v) → p.1 ≠ c := fun c o v hm hd p hp hc e => by
    have z1 := (N p hp).1
    have z2 := (N _ hm).1
    rw [e] at z1
    have e2 : p.2 = o := Option.some.inj (z1.symm.trans z2)
    exact hc v (by rw [e2]; exact hd)
  have fin : ∀ p ∈ all, p.1 ≠ L + 1 → p.1 ≠ L + 1 + 1 → p.1 ≠ L + 1 + 1 + 1 → p.1 ≠ L + 1 + 1 + 1 + 1 → p.1 ≠ L + 1 + 1 + 1 + 1 + 1 → p.1 ≠ L + 1 + 1 + 1 + 1 + 1 + 1 → p.1 ≠ L + 1 + 1 + 1 + 1 + 1 + 1 + 1 → p ∈ all.filter (fun p => decide (p.1 ≠ L + 1 ∧ p.1 ≠ L + 1 + 1 ∧ p.1 ≠ L + 1 + 1 + 1 ∧ p.1 ≠ L + 1 + 1 + 1 + 1 ∧ p.1 ≠ L + 1 + 1 + 1 + 1 + 1 ∧ p.1 ≠ L + 1 + 1 + 1 + 1 + 1 + 1 ∧ p.1 ≠ L + 1 + 1 + 1 + 1 + 1 + 1 + 1)) := fun p hp e1 e2 e3 e4 e5 e6 e7 => List.mem_filter.mpr ⟨hp, decide_eq_true ⟨e1, e2, e3, e4, e5, e6, e7⟩⟩
  have fout : ∀ p ∈ all.filter (fun p => decide (p.1 ≠ L + 1 ∧ p.1 ≠ L + 1 + 1 ∧ p.1 ≠ L + 1 + 1 + 1 ∧ p.1 ≠ L + 1 + 1 + 1 + 1 ∧ p.1 ≠ L + 1 + 1 + 1 + 1 + 1 ∧ p.1 ≠ L + 1 + 1 + 1 + 1 + 1 + 1 ∧ p.1 ≠ L + 1 + 1 + 1 + 1 + 1 + 1 + 1)), p ∈ all ∧ p.1 ≠ L + 1 ∧ p.1 ≠ L + 1 + 1 ∧ p.1 ≠ L + 1 + 1 + 1 ∧ p.1 ≠ L + 1 + 1 + 1 + 1 ∧ p.1 ≠ L + 1 + 1 + 1 + 1 + 1 ∧ p.1 ≠ L + 1 + 1 + 1 + 1 + 1 + 1 ∧ p.1 ≠ L + 1 + 1 + 1 + 1 + 1 + 1 + 1 := fun p hp => ⟨(List.mem_filter.mp hp).1, of_decide_eq_true (List.mem_filter.mp hp).2⟩
  refine k _ fin (fun p hp hc => fin p hp (nc _ _ _ m1 d1 p hp hc) (nc _ _ _ m2 d2 p hp hc) (nc _ _ _ m3 d3 p hp hc) (nc _ _ _ m4 d4 p hp hc) (nc _ _ _ m5 d5 p hp hc) (nc _ _ _ m6 d6 p hp hc) (nc _ _ _ m7 d7 p hp hc)) (fun p hp => ?_) (fun p hp => (fout p hp).2.1) (fun p hp => (fout p hp).2.2.1) (fun p hp => (fout p hp).2.2.2.1) (fun p hp => (fout p hp).2.2.2.2.1) (fun p hp => (fout p hp).2.2.2.2.2.1) (fun p hp => (fout p hp).2.2.2.2.2.2.1) (fun p hp => (fout p hp).2.2.2.2.2.2.2)
  rcases List.mem_cons.mp hp with rfl | hp; exact N _ m7
  rcases List.mem_cons.mp hp with rfl | hp; exact N _ m6
  rcases List.mem_cons.mp hp with rfl | hp; exact N _ m5
  rcases List.mem_cons.mp hp with rfl | hp; exact N _ m4
  rcases List.mem_cons.mp hp with rfl | hp; exact N _ m3
  rcases List.mem_cons.mp hp with rfl | hp; exact N _ m2
  rcases List.mem_cons.mp hp with rfl | hp; exact N _ m1
  exact N p (fout p hp).1
theorem RowAt.into {m : Nat} {led led' : List (Addr × Obj)} {r : Addr} {p : Nat → Rat} {e : Nat} (h : RowAt m led r p e) (nc : ∀ p ∈ led, (∀ v, p.2.data ≠ .cell v) → p ∈ led') : RowAt m led' r p e := by
  obtain ⟨as, c, h1, h2, h3⟩ := h
  refine ⟨as, c, nc _ h1 (fun v e => by cases e), h2, fun j hj => ?_⟩
  obtain ⟨a, s, u, k, g1, g2, g3⟩ := h3 j hj
  exact ⟨a, s, u, k, g1, nc _ g2 (fun v e => by cases e), g3⟩
theorem RowsAt.into {n m : Nat} {led led' : List (Addr × Obj)} {vs : List Value} {P : Nat → Nat → Rat} {E : Nat → Nat} (h : RowsAt n m led vs P E) (nc : ∀ p ∈ led, (∀ v, p.2.data ≠ .cell v) → p ∈ led') : RowsAt n m led' vs P E := by
  refine ⟨h.1, fun i hi => ?_⟩
  obtain ⟨r, h1, h2⟩ := h.2 i hi
  exact ⟨r, h1, h2.into nc⟩
theorem nc_list {vs : List Value} {c : Nat} : ∀ v, (listObj vs c).data ≠ .cell v := fun v e => by cases e
theorem nc_tup {n d : Int} {t u : Tok} {c : Nat} : ∀ v, (tup2 n t d u c).data ≠ .cell v := fun v e => by cases e
theorem nc_tupR {a b : Addr} {c : Nat} : ∀ v, (tupR a b c).data ≠ .cell v := fun v e => by cases e
def Tk (r : Nat → Nat → Rat) (b : Nat → Rat) (mm : Str → Option Value) (rest : List (Addr × Obj)) : Prop :=
  ∃ RR vs cR Fd q sf uf kf P, mm (PySem.Str.ofString "taken") = some (.ref RR) ∧ mm (PySem.Str.ofString "found") = some (.ref Fd) ∧ (RR, listObj vs cR) ∈ rest ∧ (Fd, tup2 q.num sf q.den uf kf) ∈ rest ∧ Sz 475 q ∧ RowsAt 3 4 rest vs P (fun _ => 475) ∧ TakenR3 (aug r b) P q
theorem Tk.sub {r : Nat → Nat → Rat} {b : Nat → Rat} {mm mm' : Str → Option Value} {rest rest' : List (Addr × Obj)} (h : Tk r b mm rest) (hs : ∀ p ∈ rest, p ∈ rest') (h1 : mm' (PySem.Str.ofString "taken") = mm (PySem.Str.ofString "taken")) (h2 : mm' (PySem.Str.ofString "found") = mm (PySem.Str.ofString "found")) : Tk r b mm' rest' :=
  let ⟨RR, vs, cR, Fd, q, sf, uf, kf, P, a, b, c, d, e, f, g⟩ := h
  ⟨RR, vs, cR, Fd, q, sf, uf, kf, P, h1.trans a, h2.trans b, hs _ c, hs _ d, e, f.sub hs (fun _ _ _ _ => rfl) (fun _ _ => Nat.le_refl _), g⟩
def CellRat (v : Option Value) (rest : List (Addr × Obj)) (e : Nat) : Prop := ∃ (q : Rat) (a : Addr) (s u : Tok) (k : Nat), v = some (.ref a) ∧ (a, tup2 q.num s q.den u k) ∈ rest ∧ Sz e q
theorem CellRat.sub {v : Option Value} {rest rest' : List (Addr × Obj)} {e : Nat} (h : CellRat v rest e) (hs : ∀ p ∈ rest, p ∈ rest') : CellRat v rest' e :=
  let ⟨q, a, s, u, k, h1, h2, h3⟩ := h
  ⟨q, a, s, u, k, h1, hs _ h2, h3⟩
theorem sq_bounds {x : Int} (h : x.natAbs ≤ 2 ^ 2) : 0 ≤ x ^ 2 ∧ x ^ 2 ≤ 16 := by
  have h1 : -4 ≤ x ∧ x ≤ 4 := by omega
  have hc : x = -4 ∨ x = -3 ∨ x = -2 ∨ x = -1 ∨ x = 0 ∨ x = 1 ∨ x = 2 ∨ x = 3 ∨ x = 4 := by omega
  rcases hc with rfl | rfl | rfl | rfl | rfl | rfl | rfl | rfl | rfl <;> decide
theorem pow2_rule {w : World} {A : Around} {s : Shared} {Q E : Value → Shared → Prop} {x : Int} {t u : Tok} (hf : Fit x) (h : Q (.int (x ^ 2) s.toks) { s with toks := s.toks + 1 }) : wpAny (model PR w) A (binaryOp .Pow (.int x t) (.int 2 u)) Q E s :=
  pow_int (n := 2) (by decide) (by have := hf.bits; omega) h
end Mine
namespace Mine
open PyProof.V
theorem law_raises (c : WCtx) : ∀ ct ∈ PySem.Challenge.rw_sz0002_01.row.raises, WTm.holds PySem.Challenge.rw_sz0002_01.row.records ct.2 c = false := fun ct h => nomatch h
theorem law_post (ns : List Int) : PySem.Challenge.rw_sz0002_01.row.claim.post [ofPy (PyData.list (List.map PyData.int ns))] (WData.bool true) [ofPy (PyData.list (List.map PyData.int ns))] = true := by
  wrow_post
end Mine
namespace Mine
def Slv (r : Nat → Nat → Rat) (b : Nat → Rat) (v : Option Value) (rest : List (Addr × Obj)) : Prop :=
  ∃ (x : Nat → Rat) (D : Addr), v = some (.ref D) ∧ RowAt 3 rest D x 70 ∧ Sol (aug r b) (x 0) (x 1) (x 2)
theorem Slv.sub {r : Nat → Nat → Rat} {b : Nat → Rat} {v : Option Value} {rest rest' : List (Addr × Obj)} (h : Slv r b v rest) (hs : ∀ p ∈ rest, p ∈ rest') : Slv r b v rest' :=
  let ⟨x, D, a, c, d⟩ := h
  ⟨x, D, a, c.sub hs (fun _ _ => rfl) (Nat.le_refl _), d⟩
theorem Fit.mul2 {x y : Int} (h : x.natAbs ≤ 2 ^ 70) (g : y.natAbs ≤ 2 ^ 70) : Fit (x * y) := le_fit (e := 140) (by rw [Int.natAbs_mul]; exact mul_le2 h g) (by decide)
theorem den_le {q : Rat} {e : Nat} (h : Sz e q) : (q.den : Int).natAbs ≤ 2 ^ e := by rw [Int.natAbs_natCast]; exact h.2
theorem RowAt.openc3 {led : List (Addr × Obj)} {r : Addr} {p : Nat → Rat} {e v : Nat} (h : RowAt 3 led r p e) (hv : v < 3) : ∃ (c : Nat) (a0 : Addr) (s0 u0 : Tok) (k0 : Nat) (a1 : Addr) (s1 u1 : Tok) (k1 : Nat) (a2 : Addr) (s2 u2 : Tok) (k2 : Nat) (x : Addr) (sx ux : Tok) (kx : Nat),
    (r, listObj [.ref a0, .ref a1, .ref a2] c) ∈ led ∧ (a0, tup2 (p 0).num s0 (p 0).den u0 k0) ∈ led ∧ (a1, tup2 (p 1).num s1 (p 1).den u1 k1) ∈ led ∧ (a2, tup2 (p 2).num s2 (p 2).den u2 k2) ∈ led ∧ Sz e (p 0) ∧ Sz e (p 1) ∧ Sz e (p 2) ∧ ([.ref a0, .ref a1, .ref a2] : List Value)[v]? = some (.ref x) ∧ (x, tup2 (p v).num sx (p v).den ux kx) ∈ led ∧ Sz e (p v) := by
  obtain ⟨c, a0, s0, u0, k0, a1, s1, u1, k1, a2, s2, u2, k2, h1, m0, m1, m2, z0, z1, z2⟩ := h.open3
  match v, hv with
  | 0, _ => exact ⟨c, a0, s0, u0, k0, a1, s1, u1, k1, a2, s2, u2, k2, a0, s0, u0, k0, h1, m0, m1, m2, z0, z1, z2, rfl, m0, z0⟩
  | 1, _ => exact ⟨c, a0, s0, u0, k0, a1, s1, u1, k1, a2, s2, u2, k2, a1, s1, u1, k1, h1, m0, m1, m2, z0, z1, z2, rfl, m1, z1⟩
  | 2, _ => exact ⟨c, a0, s0, u0, k0, a1, s1, u1, k1, a2, s2, u2, k2, a2, s2, u2, k2, h1, m0, m1, m2, z0, z1, z2, rfl, m2, z2⟩
end Mine
namespace Mine
theorem item_last4 {prog : Program} {w : World} {A : Around} {E : Value → Shared → Prop} {s : Shared} {h₀ : Heap} {L l : Addr} {news : List (Addr × Obj)} {a b c v : Value} {n : Nat} {u : Tok} {value slice : PySem.Expr} {Q : Value → Shared → Prop}
    (N : News h₀ L s.heap news) (hm : (l, listObj [a, b, c, v] n) ∈ news) (h : Q v s)
    (hs : subscripted slice false (.ref l) (.int (-1) u) = operate [.ref l, .int (-1) u] (getItem (.ref l) (.int (-1) u)) := by with_unfolding_all rfl) :
    wpAny (model prog w) A (subscriptTail value slice (.ref l) (.int (-1) u)) Q E s :=
  have hL := News.isList N hm
  tail_any hL.typeIs slot_list_getitem.lookup (wpAny_getItem_list_neg hL (by decide) (show -((4 : Nat) : Int) ≤ -1 by decide) (by decide) rfl h) hs
theorem getItem_last4 {prog : Program} {w : World} {A : Around} {E : Value → Shared → Prop} {s : Shared} {h₀ : Heap} {L l : Addr} {news : List (Addr × Obj)} {a b c v : Value} {n : Nat} {u : Tok} {Q : Value → Shared → Prop}
    (N : News h₀ L s.heap news) (hm : (l, listObj [a, b, c, v] n) ∈ news) (h : Q v s) : wpAny (model prog w) A (getItem (.ref l) (.int (-1) u)) Q E s :=
  have hL := News.isList N hm
  wpAny_getItem_list_neg hL (by decide) (show -((4 : Nat) : Int) ≤ -1 by decide) (by decide) rfl h
end Mine
end
section
open PySem PySem.W PyProof.Rows PySem.Calls PySem.Spec PyProof.V
set_option Elab.async false
set_option maxRecDepth 100000
set_option maxHeartbeats 8000000
namespace Mine
def Off7 (I L : Addr) (rest : List (Addr × Obj)) : Prop := @Ne Nat (L + 1) I ∧ @Ne Nat (L + 1 + 1) I ∧ @Ne Nat (L + 1 + 1 + 1) I ∧ @Ne Nat (L + 1 + 1 + 1 + 1) I ∧ @Ne Nat (L + 1 + 1 + 1 + 1 + 1) I ∧ @Ne Nat (L + 1 + 1 + 1 + 1 + 1 + 1) I ∧ @Ne Nat (L + 1 + 1 + 1 + 1 + 1 + 1 + 1) I ∧ @Ne Nat I (L + 1) ∧ @Ne Nat I (L + 1 + 1) ∧ @Ne Nat I (L + 1 + 1 + 1) ∧ @Ne Nat I (L + 1 + 1 + 1 + 1) ∧ @Ne Nat I (L + 1 + 1 + 1 + 1 + 1) ∧ @Ne Nat I (L + 1 + 1 + 1 + 1 + 1 + 1) ∧ @Ne Nat I (L + 1 + 1 + 1 + 1 + 1 + 1 + 1) ∧ (∀ p ∈ rest, p.1 ≠ I)
theorem off7_of {I L : Addr} {rest : List (Addr × Obj)} {o1 o2 o3 o4 o5 o6 o7 : Obj} (h : LCg.Off1 I ((L + 1 + 1 + 1 + 1 + 1 + 1 + 1, o7) :: (L + 1 + 1 + 1 + 1 + 1 + 1, o6) :: (L + 1 + 1 + 1 + 1 + 1, o5) :: (L + 1 + 1 + 1 + 1, o4) :: (L + 1 + 1 + 1, o3) :: (L + 1 + 1, o2) :: (L + 1, o1) :: rest)) : Off7 I L rest := by
  have h := off1_mem h
  have g : ∀ x o, (x, o) ∈ (L + 1 + 1 + 1 + 1 + 1 + 1 + 1, o7) :: (L + 1 + 1 + 1 + 1 + 1 + 1, o6) :: (L + 1 + 1 + 1 + 1 + 1, o5) :: (L + 1 + 1 + 1 + 1, o4) :: (L + 1 + 1 + 1, o3) :: (L + 1 + 1, o2) :: (L + 1, o1) :: rest → @Ne Nat x I := fun x o hm => h (x, o) hm
  have a1 := g _ o1 (.tail _ (.tail _ (.tail _ (.tail _ (.tail _ (.tail _ (.head _)))))))
  have a2 := g _ o2 (.tail _ (.tail _ (.tail _ (.tail _ (.tail _ (.head _))))))
  have a3 := g _ o3 (.tail _ (.tail _ (.tail _ (.tail _ (.head _)))))
  have a4 := g _ o4 (.tail _ (.tail _ (.tail _ (.head _))))
  have a5 := g _ o5 (.tail _ (.tail _ (.head _)))
  have a6 := g _ o6 (.tail _ (.head _))
  have a7 := g _ o7 (.head _)
  exact ⟨a1, a2, a3, a4, a5, a6, a7, a1.symm, a2.symm, a3.symm, a4.symm, a5.symm, a6.symm, a7.symm, fun p hp => h p (.tail _ (.tail _ (.tail _ (.tail _ (.tail _ (.tail _ (.tail _ hp)))))))⟩
theorem nb_mul {x y : Int} {e f : Nat} (h : x.natAbs ≤ 2 ^ e) (g : y.natAbs ≤ 2 ^ f) : (x * y).natAbs ≤ 2 ^ (e + f) := by rw [Int.natAbs_mul]; exact mul_le2 h g
theorem nb_fdiv {x y : Int} {e : Nat} (h : x.natAbs ≤ 2 ^ e) (hy : 0 ≤ y) : (x.fdiv y).natAbs ≤ 2 ^ e := by
  rw [Int.fdiv_eq_ediv_of_nonneg _ hy]; exact Nat.le_trans (Int.natAbs_ediv_le_natAbs _ _) h
theorem nb_fit {x : Int} {e : Nat} (h : x.natAbs ≤ 2 ^ e) (he : e ≤ 2500) : Fit x := le_fit h he
theorem heq_sum {a b c d : Int} (h : 0 + a + b + c = d) : a + (b + (c + 0)) = d := by omega
theorem int_num {n : Int} : n = ((n : Int) : Rat).num := rfl
theorem int_den {n : Int} : (1 : Int) = (((n : Int) : Rat).den : Int) := rfl
theorem half_num : (1 : Int) = ((1 / 2 : Rat)).num := by decide +kernel
theorem half_den : (2 : Int) = (((1 / 2 : Rat)).den : Int) := by decide +kernel
theorem mhalf_num : (-1 : Int) = ((-(1 / 2) : Rat)).num := by decide +kernel
theorem mhalf_den : (2 : Int) = (((-(1 / 2) : Rat)).den : Int) := by decide +kernel
theorem sz_half : Sz 1 (1 / 2 : Rat) := ⟨by decide +kernel, by decide +kernel⟩
theorem sz_mhalf : Sz 1 (-(1 / 2) : Rat) := ⟨by decide +kernel, by decide +kernel⟩
theorem fdiv_neg_le {a b : Int} (h : 0 ≤ a) (hb : 0 < b) : 0 ≤ a.fdiv b := by rw [Int.fdiv_eq_ediv_of_nonneg _ (by omega)]; exact Int.ediv_nonneg h (by omega)
theorem rnd_sz {p : Rat} {e : Nat} (h : Sz e p) : Sz (e + 2) ((rndR p : Int) : Rat) := by
  have hd : 0 < (p.den : Int) := by have := p.den_nz; omega
  have hn := rnd_near p
  have h1 := h.1
  refine ⟨?_, ?_⟩
  · show (rndR p).natAbs ≤ _
    have key : (rndR p).natAbs ≤ p.num.natAbs + 1 := by
      have a1 := hn.1
      have a2 := hn.2
      generalize rndR p = q at *
      have b1 : 2 * q * p.den = 2 * (q * p.den) := by rw [Int.mul_assoc]
      rw [b1] at a1 a2
      have c0 : (q * (p.den : Int)).natAbs = q.natAbs * p.den := by rw [Int.natAbs_mul, Int.natAbs_natCast]
      have c1 : 2 * (q * (p.den : Int)).natAbs ≤ 2 * p.num.natAbs + p.den := by omega
      rw [c0] at c1
      have hd' : 1 ≤ p.den := by omega
      apply Nat.le_of_not_lt
      intro hc
      have d1 : (p.num.natAbs + 2) * p.den ≤ q.natAbs * p.den := Nat.mul_le_mul_right _ hc
      have d2 : (p.num.natAbs + 2) * p.den = p.num.natAbs * p.den + 2 * p.den := Nat.add_mul ..
      have d3 : p.num.natAbs ≤ p.num.natAbs * p.den := Nat.le_mul_of_pos_right _ hd'
      omega
    have : (2:Nat) ^ (e + 2) = 4 * 2 ^ e := by rw [Nat.pow_add]; omega
    have : 1 ≤ 2 ^ e := Nat.one_le_two_pow
    omega
  · show 1 ≤ _
    exact Nat.one_le_two_pow
theorem gap_le {p : Rat} : ¬ 0 < ordR (p - ((rndR p : Int) : Rat)) (1 / 2) := by
  have h := rnd_le p
  rw [ordR_eq]
  split
  · decide
  · split
    · rename_i h2; exact absurd h (Rat.not_le.mpr h2)
    · decide
theorem gap_ge {p : Rat} : ¬ ordR (p - ((rndR p : Int) : Rat)) (-(1 / 2)) < 0 := by
  have h := rnd_ge p
  rw [ordR_eq]
  split
  · rename_i h2; exact absurd h (Rat.not_le.mpr h2)
  · split <;> decide
section
variable {prog : Program} {w : World} {A : Around} {E : Value → Shared → Prop} {s : Shared} {h₀ : Heap} {L t : Addr} {news : List (Addr × Obj)} {a b : Value} {n : Nat} {u : Tok} {value slice : PySem.Expr} {Q : Value → Shared → Prop}
theorem neK_int {x y : Int} {t1 t2 : Tok} (e : x = y) (h : Q (.bool false) s) : wpAny (model prog w) A (compareOp .NotEq (.int x t1) (.int y t2)) Q E s := ne_int (by rw [e, bne_self_eq_false]; exact h)
theorem item_tup0 (N : News h₀ L s.heap news) (hm : (t, ({ cls := .type "tuple", data := .seq #[a, b] n } : Obj)) ∈ news) (h : Q a s)
    (hs : subscripted slice false (.ref t) (.int 0 u) = operate [.ref t, .int 0 u] (getItem (.ref t) (.int 0 u)) := by with_unfolding_all rfl) : wpAny (model prog w) A (subscriptTail value slice (.ref t) (.int 0 u)) Q E s :=
  have ht : IsTup s.heap t #[a, b] := News.isTup N hm
  tail_any ht.typeIs slot_tuple_getitem.lookup (getItem_tuple ht (by decide) (by decide) (j := 0) rfl rfl h) hs
theorem item_tup1 (N : News h₀ L s.heap news) (hm : (t, ({ cls := .type "tuple", data := .seq #[a, b] n } : Obj)) ∈ news) (h : Q b s)
    (hs : subscripted slice false (.ref t) (.int 1 u) = operate [.ref t, .int 1 u] (getItem (.ref t) (.int 1 u)) := by with_unfolding_all rfl) : wpAny (model prog w) A (subscriptTail value slice (.ref t) (.int 1 u)) Q E s :=
  have ht : IsTup s.heap t #[a, b] := News.isTup N hm
  tail_any ht.typeIs slot_tuple_getitem.lookup (getItem_tuple ht (by decide) (by decide) (j := 1) rfl rfl h) hs
end
end Mine
end
section
open PySem PySem.W PyProof.Rows PySem.Calls PySem.Spec
set_option Elab.async false
set_option maxRecDepth 100000
set_option maxHeartbeats 8000000
namespace Mine
local macro_rules | `(tactic| k_mem) => `(tactic| ((repeat' (first | (with_reducible exact List.mem_cons_self ..) | ktr_member | (with_reducible refine List.mem_cons_of_mem _ ?_))); done))
local macro_rules | `(tactic| mul_fits) => `(tactic| exact Fit.mul (by assumption) (by assumption))
local macro_rules | `(tactic| k_mem) => `(tactic| ((repeat' (first | (with_reducible exact List.mem_cons_self ..) | ktr_member | (with_reducible refine List.mem_cons_of_mem _ ?_) | (refine' mem_sub ?oa ?ob; (case oa => with_reducible assumption); (case ob => with_reducible assumption)))); done))
local macro_rules | `(tactic| k_lt $h:ident) => `(tactic| replace $h := allLt_of $h)
local macro_rules | `(tactic| k_ne) => `(tactic| ((refine neN ?_); (try dsimp only); first | (with_reducible assumption) | (refine' Ne3.ci ?oa; (case oa => with_reducible assumption)) | (refine' Ne3.di ?oa; (case oa => with_reducible assumption)) | (refine' Ne3.dc ?oa; (case oa => with_reducible assumption)) | (refine' ne_lt ?oa ?ob; (case oa => with_reducible assumption); (case ob => k_mem)) | (refine' ne_lt' ?oa ?ob; (case oa => with_reducible assumption); (case ob => k_mem)) | (refine' ne_off1 ?oa ?ob; (case oa => with_reducible assumption); (case ob => k_mem)) | (refine' ne_off1' ?oa ?ob; (case oa => with_reducible assumption); (case ob => k_mem)) | (refine' ne_off3I ?oa ?ob; (case oa => with_reducible assumption); (case ob => k_mem)) | (refine' ne_off3C ?oa ?ob; (case oa => with_reducible assumption); (case ob => k_mem)) | (refine' ne_off3D ?oa ?ob; (case oa => with_reducible assumption); (case ob => k_mem)) | (refine' ne_off3I' ?oa ?ob; (case oa => with_reducible assumption); (case ob => k_mem)) | (refine' ne_off3C' ?oa ?ob; (case oa => with_reducible assumption); (case ob => k_mem)) | (refine' ne_off3D' ?oa ?ob; (case oa => with_reducible assumption); (case ob => k_mem)) | omega))
local macro_rules | `(tactic| k_all) => `(tactic| ((repeat' (first | (with_reducible refine' List.forall_mem_cons.mpr ⟨?_, ?_⟩) | exact List.forall_mem_nil _ | (refine' ne_id ?oa; (case oa => with_reducible assumption)) | (refine' tail_lt ?oa ?ob; (case oa => with_reducible assumption); (case ob => kcj_all)) | (refine' tail_off1 ?oa ?ob; (case oa => with_reducible assumption); (case ob => kcj_all)) | (refine' tail_off3I ?oa ?ob; (case oa => with_reducible assumption); (case ob => kcj_all)) | (refine' tail_off3C ?oa ?ob; (case oa => with_reducible assumption); (case ob => kcj_all)) | (refine' tail_off3D ?oa ?ob; (case oa => with_reducible assumption); (case ob => kcj_all)) | (refine' ne_of_allLt_le ?oa ?ob; (case oa => with_reducible assumption); (case ob => omega)) | k_ne)); done))
local macro_rules | `(tactic| k_upd) => `(tactic| ((repeat' (first | (with_reducible refine' Del.head ?_) | (with_reducible refine' Del.tail ?_ ?_) | (with_reducible refine' Upd.head ?_) | (with_reducible refine' Upd.tail ?_ ?_) | (with_reducible refine' UpdF.head ?_) | (with_reducible refine' UpdF.tail ?_ ?_) | k_all | k_ne)); done))
local macro_rules | `(tactic| kcj_all) => `(tactic| ((repeat' (first | (with_reducible exact mem_same) | exact List.forall_mem_nil _ | (with_reducible refine' List.forall_mem_cons.mpr ⟨?_, ?_⟩) | (with_reducible refine' mem_step ?_) | k_mem)); done))
local macro_rules | `(tactic| walk_at "CompRest") => `(tactic| (with_unfolding_all first
  | (refine LCg.CompRest.succ ?_; intro v' I' oI' C' oC' D' m' h' tk' E' hv' hC' hx' F' N' off' ne'; (first | lcg_open hv' | (obtain ⟨t9', hv9'⟩ := hv'; subst hv9')); (replace ne' := Ne3.mk' ne'))
  | refine LCg.CompRest.zero ?_))
local macro_rules | `(tactic| walk_at "CompEnd") => `(tactic| (k_here; k_dflt (refine' comp_keep ?F ?N ?O ?K ?h1 ?h2 ?h3 ?hs ?S ?_; (case F => k_asm); (case N => k_asm); (case O => with_reducible assumption); (case K => k_mem); (case h1 => k_ne); (case h2 => k_ne); (case h3 => k_ne); (case hs => ((repeat' (first | (with_reducible exact mem_same) | (with_reducible refine' mem_step ?_))); done)); (case S => lcg_src))))
local macro_rules | `(tactic| walk_at "FinE") => `(tactic| ((unfold LCg.FinE); intro D' h' tk' F' N' o1'; (try simp only [List.nil_append, List.cons_append] at N'); (try dsimp only)))
local macro_rules | `(tactic| walk_at "FinA") => `(tactic| ((unfold LCg.FinA); intro D' h' tk' F' N' o1'; (try simp only [List.nil_append, List.cons_append] at N'); (try dsimp only)))
local macro_rules | `(tactic| walk_at "UnrEnd") => `(tactic| (k_here; k_dflt (refine' unr_keep (o := tup2 _ _ _ _ _) ?F ?N ?hs ?K ?h1 ?off ?_; (case F => k_asm); (case N => k_asm); (case hs => ((repeat' (first | (with_reducible exact mem_same) | (with_reducible refine' mem_step ?_))); done)); (case K => k_mem); (case h1 => k_ne); (case off => k_all)); (try (refine ⟨by k_mem, ?_⟩))))
local macro_rules | `(tactic| walk_at "call ref") => `(tactic| (k_here; (with_reducible show wpAny _ _ (call (Value.ref 74) _) _ _ _); k_dflt (refine' sum_use ?k1 ?k2 ?k3 ?k4 ?k5 ?kK ?kd ?ku ?g ?hx ?hy ?i1 ?i2 ?i3 ?i4 ?hp ?hq ?hs ?_; (case k1 => k_asm); (case k2 => k_asm); (case k3 => k_asm); (case k4 => k_asm); (case k5 => k_asm); (case kK => first | exact rfl | assumption); (case kd => ktr_room); (case ku => ktr_units); (case g => assumption); (case hx => k_mem); (case hy => k_mem); (case i1 => first | exact rfl | exact num0 | exact num1); (case i2 => first | exact rfl | exact den0 | exact den1); (case i3 => first | exact rfl | exact num0 | exact num1); (case i4 => first | exact rfl | exact den0 | exact den1); (case hp => first | (with_reducible assumption) | exact Sz.zero | exact Sz.one); (case hq => first | (with_reducible assumption) | exact Sz.zero | exact Sz.one); (case hs => omega); k_whole); intro D' u1' u2' c' h' tk' F' N' l1' sz'; (try dsimp only); (try k_fold)))
local macro_rules | `(tactic| walk_at "call ref") => `(tactic| (k_here; (with_reducible show wpAny _ _ (call (Value.ref 81) _) _ _ _); k_dflt (refine' diff_use ?k1 ?k2 ?k3 ?k4 ?k5 ?kK ?kd ?ku ?g ?hx ?hy ?i1 ?i2 ?i3 ?i4 ?hp ?hq ?hs ?_; (case k1 => k_asm); (case k2 => k_asm); (case k3 => k_asm); (case k4 => k_asm); (case k5 => k_asm); (case kK => first | exact rfl | assumption); (case kd => ktr_room); (case ku => ktr_units); (case g => assumption); (case hx => k_mem); (case hy => k_mem); (case i1 => first | exact rfl | exact num0 | exact num1); (case i2 => first | exact rfl | exact den0 | exact den1); (case i3 => first | exact rfl | exact num0 | exact num1); (case i4 => first | exact rfl | exact den0 | exact den1); (case hp => first | (with_reducible assumption) | exact Sz.zero | exact Sz.one); (case hq => first | (with_reducible assumption) | exact Sz.zero | exact Sz.one); (case hs => omega); k_whole); intro D' u1' u2' c' h' tk' F' N' l1' sz'; (try dsimp only); (try k_fold)))
local macro_rules | `(tactic| walk_at "call ref") => `(tactic| (k_here; (with_reducible show wpAny _ _ (call (Value.ref 88) _) _ _ _); k_dflt (refine' prod_use ?k1 ?k2 ?k3 ?k4 ?k5 ?kK ?kd ?ku ?g ?hx ?hy ?i1 ?i2 ?i3 ?i4 ?hp ?hq ?hs ?_; (case k1 => k_asm); (case k2 => k_asm); (case k3 => k_asm); (case k4 => k_asm); (case k5 => k_asm); (case kK => first | exact rfl | assumption); (case kd => ktr_room); (case ku => ktr_units); (case g => assumption); (case hx => k_mem); (case hy => k_mem); (case i1 => first | exact rfl | exact num0 | exact num1); (case i2 => first | exact rfl | exact den0 | exact den1); (case i3 => first | exact rfl | exact num0 | exact num1); (case i4 => first | exact rfl | exact den0 | exact den1); (case hp => first | (with_reducible assumption) | exact Sz.zero | exact Sz.one); (case hq => first | (with_reducible assumption) | exact Sz.zero | exact Sz.one); (case hs => omega); k_whole); intro D' u1' u2' c' h' tk' F' N' l1' sz'; (try dsimp only); (try k_fold)))
local macro_rules | `(tactic| walk_at "call ref") => `(tactic| (k_here; (with_reducible show wpAny _ _ (call (Value.ref 95) _) _ _ _); k_dflt (refine' quot_use ?k1 ?k2 ?k3 ?k4 ?k5 ?kK ?kd ?ku ?g ?hx ?hy ?i1 ?i2 ?i3 ?i4 ?hp ?hq ?hs ?hn ?_; (case k1 => k_asm); (case k2 => k_asm); (case k3 => k_asm); (case k4 => k_asm); (case k5 => k_asm); (case kK => first | exact rfl | assumption); (case kd => ktr_room); (case ku => ktr_units); (case g => assumption); (case hx => k_mem); (case hy => k_mem); (case i1 => first | exact rfl | exact num0 | exact num1); (case i2 => first | exact rfl | exact den0 | exact den1); (case i3 => first | exact rfl | exact num0 | exact num1); (case i4 => first | exact rfl | exact den0 | exact den1); (case hp => first | (with_reducible assumption) | exact Sz.zero | exact Sz.one); (case hq => first | (with_reducible assumption) | exact Sz.zero | exact Sz.one); (case hs => omega); (case hn => assumption); k_whole); intro D' u1' u2' c' h' tk' F' N' l1' sz'; (try dsimp only); (try k_fold)))
local macro_rules | `(tactic| walk_at "call ref") => `(tactic| (k_here; (with_reducible show wpAny _ _ (call (Value.ref 102) _) _ _ _); k_dflt (refine' neg_use ?k1 ?k2 ?k3 ?k4 ?k5 ?kK ?kd ?ku ?hx ?i1 ?i2 ?hp ?_; (case k1 => k_asm); (case k2 => k_asm); (case k3 => k_asm); (case k4 => k_asm); (case k5 => k_asm); (case kK => first | exact rfl | assumption); (case kd => ktr_room); (case ku => ktr_units); (case hx => k_mem); (case i1 => first | exact rfl | exact num0 | exact num1); (case i2 => first | exact rfl | exact den0 | exact den1); (case hp => first | (with_reducible assumption) | exact Sz.zero | exact Sz.one); k_whole); intro D' u1' u2' c' h' tk' F' N' l1' sz'; (try dsimp only); (try k_fold)))
local macro_rules | `(tactic| walk_at "call ref") => `(tactic| (k_here; (with_reducible show wpAny _ _ (call (Value.ref 116) _) _ _ _); k_dflt (refine' order_use ?k1 ?k2 ?k3 ?k4 ?k5 ?kK ?kd ?ku ?hx ?hy ?i1 ?i2 ?i3 ?i4 ?hp ?hq ?hs ?_; (case k1 => k_asm); (case k2 => k_asm); (case k3 => k_asm); (case k4 => k_asm); (case k5 => k_asm); (case kK => first | exact rfl | assumption); (case kd => ktr_room); (case ku => ktr_units); (case hx => k_mem); (case hy => k_mem); (case i1 => first | exact rfl | exact num0 | exact num1); (case i2 => first | exact rfl | exact den0 | exact den1); (case i3 => first | exact rfl | exact num0 | exact num1); (case i4 => first | exact rfl | exact den0 | exact den1); (case hp => first | (with_reducible assumption) | exact Sz.zero | exact Sz.one); (case hq => first | (with_reducible assumption) | exact Sz.zero | exact Sz.one); (case hs => omega); k_whole); intro u' h' tk' F' N'; (try dsimp only); (try k_fold)))
local macro_rules | `(tactic| walk_at "subscriptTail") => `(tactic| (k_here; (with_reducible show wpAny _ _ (subscriptTail _ _ (Value.ref _) (Value.int _ _)) _ _ _); k_dflt (refine' item_led ?N ?m ?a ?b ?x ?_; (case N => k_asm); (case m => k_mem); (case a => decide); (case b => decide); (case x => exact rfl); k_whole)))
local macro_rules | `(tactic| walk_at "subscriptTail Name") => `(tactic| (k_here; (with_reducible show wpAny _ _ (subscriptTail _ _ (Value.ref _) (Value.int _ _)) _ _ _); k_dflt (refine' item_led ?N ?m ?a ?b ?x ?_; (case N => k_asm); (case m => k_mem); (case a => decide); (case b => decide); (case x => exact rfl); k_whole)))
local macro_rules | `(tactic| walk_at "subscriptTail Name Constant ref int") => `(tactic| (k_here; (with_reducible show wpAny _ _ (subscriptTail _ _ (Value.ref _) (Value.int _ _)) _ _ _); k_dflt (refine' item_led ?N ?m ?a ?b ?x ?_; (case N => k_asm); (case m => k_mem); (case a => decide); (case b => decide); (case x => exact rfl); k_whole)))
local macro_rules | `(tactic| walk_at "subscriptTail Name Name ref int") => `(tactic| (k_here; (with_reducible show wpAny _ _ (subscriptTail _ _ (Value.ref _) (Value.int _ _)) _ _ _); k_dflt (refine' item_led ?N ?m ?a ?b ?x ?_; (case N => k_asm); (case m => k_mem); (case a => decide); (case b => decide); (case x => exact rfl); k_whole)))
local macro_rules | `(tactic| walk_at "subscriptTail Subscript Name Constant Name ref int") => `(tactic| (k_here; (with_reducible show wpAny _ _ (subscriptTail _ _ (Value.ref _) (Value.int _ _)) _ _ _); k_dflt (refine' item_led ?N ?m ?a ?b ?x ?_; (case N => k_asm); (case m => k_mem); (case a => decide); (case b => decide); (case x => exact rfl); k_whole)))
local macro_rules | `(tactic| walk_at "subscriptTail Subscript Name Constant Constant ref int") => `(tactic| (k_here; (with_reducible show wpAny _ _ (subscriptTail _ _ (Value.ref _) (Value.int _ _)) _ _ _); k_dflt (refine' item_led ?N ?m ?a ?b ?x ?_; (case N => k_asm); (case m => k_mem); (case a => decide); (case b => decide); (case x => exact rfl); k_whole)))
local macro_rules | `(tactic| walk_at "subscriptTail Subscript Name Name Name ref int") => `(tactic| (k_here; (with_reducible show wpAny _ _ (subscriptTail _ _ (Value.ref _) (Value.int _ _)) _ _ _); k_dflt (refine' item_led ?N ?m ?a ?b ?x ?_; (case N => k_asm); (case m => k_mem); (case a => decide); (case b => decide); (case x => exact rfl); k_whole)))
local macro_rules | `(tactic| walk_at "subscriptTail Subscript Name Name Constant ref int") => `(tactic| (k_here; (with_reducible show wpAny _ _ (subscriptTail _ _ (Value.ref _) (Value.int _ _)) _ _ _); k_dflt (refine' item_led ?N ?m ?a ?b ?x ?_; (case N => k_asm); (case m => k_mem); (case a => decide); (case b => decide); (case x => exact rfl); k_whole)))
local macro_rules | `(tactic| walk_at "getItem ref int") => `(tactic| (k_here; (with_reducible show wpAny _ _ (getItem (Value.ref _) (Value.int _ _)) _ _ _); k_dflt (refine' getItem_led ?N ?m ?a ?b ?x ?_; (case N => k_asm); (case m => k_mem); (case a => decide); (case b => decide); (case x => exact rfl); k_whole)))
local macro_rules | `(tactic| walk_at "callWith builtin:list.append cons nil") => `(tactic| refine callWith_method1 ?_)
local macro_rules | `(tactic| walk_at "callWith builtin:len nil nil") => `(tactic| refine callWith_builtin1 ?_)
local macro_rules | `(tactic| walk_at "callWith builtin:len cons nil") => `(tactic| refine callWith_builtin1 ?_)
local macro_rules | `(tactic| walk_at "exec Assign cons ListComp") => `(tactic| (k_here; k_dflt (refine LCg.Assign_ListComp_U (F₀ := by k_asm) (by rfl) (by with_unfolding_all rfl) (by with_unfolding_all rfl) (by decide) (by rfl) (by decide) (by rfl) (by rfl) (by rfl) ?_)))
local macro_rules | `(tactic| walk_at "CompSrc") => `(tactic| (k_here; k_dflt (refine' LCg.CompSrc.ledger ?hh ?F ?N ?hm ?hz ?_; (case hh => exact rfl); (case F => k_asm); (case N => k_asm); (case hm => k_mem); (case hz => first | exact Nat.le_of_ble_eq_true rfl | size_fits)); intro g'; lcg_lit))
local macro_rules | `(tactic| walk_at "call builtin:list.append cons nil") => `(tactic| (k_here; k_dflt (refine' append_K ?k1 ?k2 ?k3 ?_ ?z; (case k1 => k_asm); (case k2 => k_asm); (case k3 => k_upd); (case z => size_fits); k_whole); intro h' F' N'; (try k_sweep)))
local macro_rules | `(tactic| walk_at "eval Name") => `(tactic| (k_here; (with_reducible show wpAny _ _ (eval (PySem.Expr.Name _ _) (envOfC _ _ _ _ _)) _ _ _); k_dflt (first | (refine' nameX_L ?F ?v ?_ ?a ?b; (case a => rfl); (case b => rfl); (case F => k_asm); (case v => rfl); k_whole) | (refine' nameX_C ?N ?c ?m ?d ?_ ?a ?b; (case a => rfl); (case b => rfl); (case N => k_asm); (case c => rfl); (case m => k_mem); (case d => with_reducible assumption); k_whole) | (refine' nameX_K ?F ?X ?T ?e ?_ ?a ?b; (case a => rfl); (case b => rfl); (case F => k_asm); (case X => k_asm); (case T => k_asm); (case e => k_is); k_whole))))
local macro_rules | `(tactic| walk_at "eval Name") => `(tactic| (k_here; (with_reducible show wpAny _ _ (eval (PySem.Expr.Name _ _) (envOfC _ _ _ _ _)) _ _ _); k_dflt (first | (refine' nameX_L ?F ?v ?_ ?a ?b; (case a => rfl); (case b => rfl); (case F => k_asm); (case v => first | rfl | assumption); k_whole) | (refine' nameX_C ?N ?c ?m ?d ?_ ?a ?b; (case a => rfl); (case b => rfl); (case N => k_asm); (case c => rfl); (case m => k_mem); (case d => with_reducible assumption); k_whole) | (refine' nameX_K ?F ?X ?T ?e ?_ ?a ?b; (case a => rfl); (case b => rfl); (case F => k_asm); (case X => k_asm); (case T => k_asm); (case e => k_is); k_whole))))
local macro_rules | `(tactic| walk_at "CompEnd") => `(tactic| (k_here; k_dflt (refine' comp_keep (o := listObj _ _) ?F ?N ?O ?K ?h1 ?h2 ?h3 ?hs ?S ?_; (case F => k_asm); (case N => k_asm); (case O => with_reducible assumption); (case K => k_mem); (case h1 => k_ne); (case h2 => k_ne); (case h3 => k_ne); (case hs => ((repeat' (first | (with_reducible exact mem_same) | (with_reducible refine' mem_step ?_))); done)); (case S => lcg_src))))
local macro_rules | `(tactic| walk_at "CompEnd") => `(tactic| (k_here; k_dflt (refine' comp_del ?F ?N ?D1 ?D2 ?D3 ?S ?_; (case F => k_asm); (case N => k_asm); (case D1 => k_upd); (case D2 => k_upd); (case D3 => k_upd); (case S => lcg_src))))
local macro_rules | `(tactic| walk_at "CompEnd") => `(tactic| (k_here; k_dflt (refine' comp_keep (o := tup2 _ _ _ _ _) ?F ?N ?O ?K ?h1 ?h2 ?h3 ?hs ?S ?_; (case F => k_asm); (case N => k_asm); (case hs => ((repeat' (first | (with_reducible exact mem_same) | (with_reducible refine' mem_step ?_))); done)); (case O => first | (with_reducible assumption) | (refine' off3_addr ?oa ?ob; (case oa => with_reducible assumption); (case ob => exact rfl))); (case K => k_mem); (case h1 => k_ne); (case h2 => k_ne); (case h3 => k_ne); (case S => lcg_src))))
local macro_rules | `(tactic| walk_at "CompSrc") => `(tactic| (k_here; k_dflt (refine LCg.CompSrc.range (by rfl) (by k_asm) (by k_asm) (by assumption) (by first | decide | rfl) (by first | rfl | decide) (by first | size_fits | exact Nat.le_of_ble_eq_true rfl) ?_; intro g'; lcg_lit)))
local macro_rules | `(tactic| walk_at "eval ListComp") => `(tactic| (k_here; k_dflt (refine LCg.ListComp_U (F₀ := by k_asm) (by with_unfolding_all rfl) (by decide) (by rfl) (by decide) (by rfl) ?_)))
local macro_rules | `(tactic| walk_at "CompSrc") => `(tactic| (k_here; k_dflt (refine LCg.CompSrc.range (by rfl) (by k_asm) (by k_asm) (by assumption) (by first | decide | rfl) (by first | rfl | decide) (by first | size_fits | exact Nat.le_of_ble_eq_true rfl) ?_; intro g'; lcg_lit)))
local macro_rules | `(tactic| walk_at "call ref") => `(tactic| (k_here; (with_reducible show wpAny _ _ (call (Value.ref 67) _) _ _ _); k_dflt (refine' make_use ?k1 ?k2 ?k3 ?k4 ?k5 ?kK ?kd ?ku ?g ?h1 ?h2 ?h3 ?h4 ?_; (case k1 => k_asm); (case k2 => k_asm); (case k3 => k_asm); (case k4 => k_asm); (case k5 => k_asm); (case kK => first | exact rfl | assumption); (case kd => ktr_room); (case ku => ktr_units); (case g => assumption); (case h1 => omega); (case h2 => omega); (case h3 => omega); (case h4 => omega); k_whole); intro D' u1' u2' c' h' tk' F' N' l1' en' sz'; (try (replace en' := en' (by omega) (by omega) (by omega))); (try dsimp only); (try k_fold)))
local macro_rules | `(tactic| walk_at "call ref") => `(tactic| (k_here; (with_reducible show wpAny _ _ (call (Value.ref 131) _) _ _ _); k_dflt (refine' use_plate ?k1 ?k2 ?k3 ?k4 ?k5 ?kK ?kd ?ku ?U ?hS ?hv ?hl ?h0 ?h1 ?hm ?hm2 ?hne ?_; (case k1 => k_asm); (case k2 => k_asm); (case k3 => k_asm); (case k4 => k_asm); (case k5 => k_asm); (case kK => first | exact rfl | assumption); (case kd => ktr_room); (case ku => ktr_units); (case U => k_upd); (case hS => k_mem); (case hv => with_reducible assumption); (case hl => assumption); (case h0 => omega); (case h1 => omega); (case hm => decide); (case hm2 => decide); (case hne => assumption); k_whole); intro v' u' t' h' tk' hv0' hv1' F' N'; (refine' upd_then N' ?U ?_; (case U => k_upd)); clear N'; intro N'; (try dsimp only); (try k_fold)))
local macro_rules | `(tactic| walk_at "call ref") => `(tactic| (k_here; (with_reducible show wpAny _ _ (call (Value.ref 148) _) _ _ _); k_dflt (refine' bp2_use ?k1 ?k2 ?k3 ?k4 ?k5 ?kK ?kd ?ku ?g ?hl ?hr1 ?hr2 ?h11 ?h12 ?h21 ?h22 ?z11 ?z12 ?z21 ?z22 ?hs ?_; (case k1 => k_asm); (case k2 => k_asm); (case k3 => k_asm); (case k4 => k_asm); (case k5 => k_asm); (case kK => first | exact rfl | assumption); (case kd => ktr_room); (case ku => ktr_units); (case g => assumption); (case hl => k_mem); (case hr1 => k_mem); (case hr2 => k_mem); (case h11 => k_mem); (case h12 => k_mem); (case h21 => k_mem); (case h22 => k_mem); (case z11 => with_reducible assumption); (case z12 => with_reducible assumption); (case z21 => with_reducible assumption); (case z22 => with_reducible assumption); (case hs => omega); k_whole); intro D' u1' u2' c' h' tk' F' N' l1' sz'; (try dsimp only); (try k_fold)))
local macro_rules | `(tactic| walk_at "call ref") => `(tactic| (k_here; (with_reducible show wpAny _ _ (call (Value.ref 148) _) _ _ _); k_dflt (refine' bp3_use ?k1 ?k2 ?k3 ?k4 ?k5 ?kK ?kd ?ku ?g ?hl ?hr1 ?hr2 ?hr3 ?h11 ?h12 ?h13 ?h21 ?h22 ?h23 ?h31 ?h32 ?h33 ?z11 ?z12 ?z13 ?z21 ?z22 ?z23 ?z31 ?z32 ?z33 ?hs ?_; (case k1 => k_asm); (case k2 => k_asm); (case k3 => k_asm); (case k4 => k_asm); (case k5 => k_asm); (case kK => first | exact rfl | assumption); (case kd => ktr_room); (case ku => ktr_units); (case g => assumption); (case hl => k_mem); (case hr1 => k_mem); (case hr2 => k_mem); (case hr3 => k_mem); (case h11 => k_mem); (case h12 => k_mem); (case h13 => k_mem); (case h21 => k_mem); (case h22 => k_mem); (case h23 => k_mem); (case h31 => k_mem); (case h32 => k_mem); (case h33 => k_mem); (case z11 => with_reducible assumption); (case z12 => with_reducible assumption); (case z13 => with_reducible assumption); (case z21 => with_reducible assumption); (case z22 => with_reducible assumption); (case z23 => with_reducible assumption); (case z31 => with_reducible assumption); (case z32 => with_reducible assumption); (case z33 => with_reducible assumption); (case hs => omega); k_whole); intro D' u1' u2' c' h' tk' F' N' l1' sz'; (try dsimp only); (try k_fold)))
local macro_rules | `(tactic| walk_at "subscriptTail Name UnaryOp ref int") => `(tactic| (k_here; (with_reducible show wpAny _ _ (subscriptTail _ _ (Value.ref _) (Value.int _ _)) _ _ _); k_dflt (refine' item_last4 ?N ?m ?_; (case N => k_asm); (case m => k_mem); k_whole)))
local macro_rules | `(tactic| walk_at "getItem ref int") => `(tactic| (k_here; (with_reducible show wpAny _ _ (getItem (Value.ref _) (Value.int (-1) _)) _ _ _); k_dflt (refine' getItem_last4 ?N ?m ?_; (case N => k_asm); (case m => k_mem); k_whole)))
local macro_rules | `(tactic| walk_at "compareOp Eq ref ref") => `(tactic| (k_here; (with_reducible show wpAny _ _ (compareOp CmpOp.Eq (Value.ref _) (Value.ref _)) _ _ _); k_dflt (refine' eq_rats ?N ?ha ?hb ?i1 ?i2 ?i3 ?i4 ?hu ?_; (case N => k_asm); (case ha => k_mem); (case hb => k_mem); (case i1 => first | exact rfl | exact num0 | exact num1); (case i2 => first | exact rfl | exact den0 | exact den1); (case i3 => first | exact rfl | exact num0 | exact num1); (case i4 => first | exact rfl | exact den0 | exact den1); (case hu => first | ktr_units | units_room | omega); k_whole)))
local macro_rules | `(tactic| walk_at "compareOp NotEq ref ref") => `(tactic| (k_here; (with_reducible show wpAny _ _ (compareOp CmpOp.NotEq (Value.ref _) (Value.ref _)) _ _ _); k_dflt (refine' ne_rats ?N ?ha ?hb ?i1 ?i2 ?i3 ?i4 ?hu ?_; (case N => k_asm); (case ha => k_mem); (case hb => k_mem); (case i1 => first | exact rfl | exact num0 | exact num1); (case i2 => first | exact rfl | exact den0 | exact den1); (case i3 => first | exact rfl | exact num0 | exact num1); (case i4 => first | exact rfl | exact den0 | exact den1); (case hu => first | ktr_units | units_room | omega); k_whole)))
local macro_rules | `(tactic| walk_at "compareOp NotEq ref ref") => `(tactic| (k_here; (with_reducible show wpAny _ _ (compareOp CmpOp.NotEq (Value.ref _) (Value.ref _)) _ _ _); k_dflt (refine' neK_lists ?N ?ha ?hb ?m0 ?m1 ?m2 ?n0 ?n1 ?n2 ?w0 ?w1 ?w2 ?hu ?_; (case N => k_asm); (case ha => k_mem); (case hb => k_mem); (case m0 => k_mem); (case m1 => k_mem); (case m2 => k_mem); (case n0 => k_mem); (case n1 => k_mem); (case n2 => k_mem); (case hu => first | ktr_units | units_room | omega); (case w0 => with_reducible assumption); (case w1 => with_reducible assumption); (case w2 => with_reducible assumption); k_whole)))
local macro_rules | `(tactic| walk_at "compareOp NotEq ref ref") => `(tactic| (k_here; (with_reducible show wpAny _ _ (compareOp CmpOp.NotEq (Value.ref _) (Value.ref _)) _ _ _); k_dflt (refine' neK_rats ?N ?ha ?hb ?i1 ?i2 ?i3 ?i4 ?hu ?e ?_; (case N => k_asm); (case ha => k_mem); (case hb => k_mem); (case i1 => exact rfl); (case i2 => exact rfl); (case i3 => exact rfl); (case i4 => exact rfl); (case hu => first | ktr_units | units_room | omega); (case e => first | exact det2_mul | exact det2_turn | exact det2_often | assumption); k_whole)))
local macro_rules | `(tactic| walk_at "compareOp Eq ref ref") => `(tactic| (k_here; (with_reducible show wpAny _ _ (compareOp CmpOp.Eq (Value.ref _) (Value.ref _)) _ _ _); k_dflt (refine' eqK_rats ?N ?ha ?hb ?i1 ?i2 ?i3 ?i4 ?hu ?e ?_; (case N => k_asm); (case ha => k_mem); (case hb => k_mem); (case i1 => exact rfl); (case i2 => exact rfl); (case i3 => exact rfl); (case i4 => exact rfl); (case hu => first | ktr_units | units_room | omega); (case e => with_reducible assumption); k_whole)))
local macro_rules | `(tactic| kc_close) => `(tactic| (kc_bool; exact goodW_bool (by with_reducible assumption) (by with_reducible assumption) (raisesW_false (law_raises _)) (law_post _)))
local macro_rules | `(tactic| wrow_close) => `(tactic| (w_end; exact goodW_bool (by with_reducible assumption) (by with_reducible assumption) (raisesW_false (law_raises _)) (law_post _)))
local macro_rules | `(tactic| kcj_all) => `(tactic| ((repeat' (first | (with_reducible assumption) | (with_reducible exact mem_same) | exact List.forall_mem_nil _ | (with_reducible refine' List.forall_mem_cons.mpr ⟨?_, ?_⟩) | (with_reducible refine' mem_step ?_) | k_mem)); done))
local macro_rules | `(tactic| kcj_all) => `(tactic| ((repeat' (first | (with_reducible assumption) | (with_reducible exact mem_same) | exact List.forall_mem_nil _ | (with_reducible refine' List.forall_mem_cons.mpr ⟨?_, ?_⟩) | (with_reducible refine' mem_step ?_) | (with_reducible refine' mem_app ?_) | k_mem)); done))
local macro_rules | `(tactic| k_upd) => `(tactic| ((repeat' (first | (with_reducible refine' Del.head ?_) | (with_reducible refine' Del.tail ?_ ?_) | (with_reducible refine' Del.app ?_ ?_) | (with_reducible refine' Upd.head ?_) | (with_reducible refine' Upd.tail ?_ ?_) | (with_reducible refine' UpdF.head ?_) | (with_reducible refine' UpdF.tail ?_ ?_) | (with_reducible assumption) | k_all | k_ne)); done))
local macro_rules | `(tactic| walk_at "CompEnd") => `(tactic| (k_here; (try simp only [List.nil_append, List.cons_append]); (rename News _ _ _ _ => lN'); (try simp only [List.nil_append, List.cons_append] at lN'); k_dflt (refine' comp_del ?F ?N ?D1 ?D2 ?D3 ?S ?_; (case F => k_asm); (case N => k_asm); (case D1 => k_upd); (case D2 => k_upd); (case D3 => k_upd); (case S => lcg_src))))
local macro_rules | `(tactic| walk_at "CompEnd") => `(tactic| (k_here; k_dflt (refine' comp_keep (o := tup2 _ _ _ _ _) ?F ?N ?O ?K ?h1 ?h2 ?h3 ?hs ?S ?_; (case F => k_asm); (case N => k_asm); (case hs => ((repeat' (first | (with_reducible exact mem_same) | (with_reducible refine' mem_step ?_))); done)); (case O => first | (with_reducible assumption) | (refine' off3_addr ?oa ?ob; (case oa => with_reducible assumption); (case ob => exact rfl))); (case K => k_mem); (case h1 => k_ne); (case h2 => k_ne); (case h3 => k_ne); (case S => lcg_src))))
local macro_rules | `(tactic| walk_at "binaryOp Pow int int") => `(tactic| (k_here; (with_reducible show wpAny _ _ (binaryOp _ (Value.int _ _) (Value.int _ _)) _ _ _); k_dflt (refine' pow2_rule ?k1 ?_; (case k1 => assumption)); (try dsimp only)))
local macro_rules | `(tactic| walk_at "call ref") => `(tactic| (k_here; (with_reducible show wpAny _ _ (call (Value.ref 109) _) _ _ _); k_dflt (refine' power_use ?k1 ?k2 ?k3 ?k4 ?k5 ?kK ?kd ?ku ?g ?hx ?i1 ?i2 ?hp ?hs ?_; (case k1 => k_asm); (case k2 => k_asm); (case k3 => k_asm); (case k4 => k_asm); (case k5 => k_asm); (case kK => first | exact rfl | assumption); (case kd => ktr_room); (case ku => ktr_units); (case g => assumption); (case hx => k_mem); (case i1 => exact rfl); (case i2 => exact rfl); (case hp => with_reducible assumption); (case hs => omega); k_whole); intro D' u1' u2' c' h' tk' F' N' l1' sz'; (try dsimp only); (try k_fold)))
local macro_rules | `(tactic| walk_at "subscriptTail") => `(tactic| (k_here; (with_reducible show wpAny _ _ (subscriptTail _ _ (Value.ref _) (Value.int _ _)) _ _ _); k_dflt (refine' item_led ?N ?m ?a ?b ?x ?_; (case N => k_asm); (case m => k_mem); (case a => first | decide | (with_reducible assumption)); (case b => first | decide | (with_reducible assumption)); (case x => first | exact rfl | (with_reducible assumption)); k_whole)))
local macro_rules | `(tactic| walk_at "subscriptTail Name") => `(tactic| (k_here; (with_reducible show wpAny _ _ (subscriptTail _ _ (Value.ref _) (Value.int _ _)) _ _ _); k_dflt (refine' item_led ?N ?m ?a ?b ?x ?_; (case N => k_asm); (case m => k_mem); (case a => first | decide | (with_reducible assumption)); (case b => first | decide | (with_reducible assumption)); (case x => first | exact rfl | (with_reducible assumption)); k_whole)))
local macro_rules | `(tactic| walk_at "subscriptTail Name Constant ref int") => `(tactic| (k_here; (with_reducible show wpAny _ _ (subscriptTail _ _ (Value.ref _) (Value.int _ _)) _ _ _); k_dflt (refine' item_led ?N ?m ?a ?b ?x ?_; (case N => k_asm); (case m => k_mem); (case a => first | decide | (with_reducible assumption)); (case b => first | decide | (with_reducible assumption)); (case x => first | exact rfl | (with_reducible assumption)); k_whole)))
local macro_rules | `(tactic| walk_at "subscriptTail Name Name ref int") => `(tactic| (k_here; (with_reducible show wpAny _ _ (subscriptTail _ _ (Value.ref _) (Value.int _ _)) _ _ _); k_dflt (refine' item_led ?N ?m ?a ?b ?x ?_; (case N => k_asm); (case m => k_mem); (case a => first | decide | (with_reducible assumption)); (case b => first | decide | (with_reducible assumption)); (case x => first | exact rfl | (with_reducible assumption)); k_whole)))
local macro_rules | `(tactic| walk_at "subscriptTail Subscript Name Constant Name ref int") => `(tactic| (k_here; (with_reducible show wpAny _ _ (subscriptTail _ _ (Value.ref _) (Value.int _ _)) _ _ _); k_dflt (refine' item_led ?N ?m ?a ?b ?x ?_; (case N => k_asm); (case m => k_mem); (case a => first | decide | (with_reducible assumption)); (case b => first | decide | (with_reducible assumption)); (case x => first | exact rfl | (with_reducible assumption)); k_whole)))
local macro_rules | `(tactic| walk_at "subscriptTail Subscript Name Constant Constant ref int") => `(tactic| (k_here; (with_reducible show wpAny _ _ (subscriptTail _ _ (Value.ref _) (Value.int _ _)) _ _ _); k_dflt (refine' item_led ?N ?m ?a ?b ?x ?_; (case N => k_asm); (case m => k_mem); (case a => first | decide | (with_reducible assumption)); (case b => first | decide | (with_reducible assumption)); (case x => first | exact rfl | (with_reducible assumption)); k_whole)))
local macro_rules | `(tactic| walk_at "subscriptTail Subscript Name Name Name ref int") => `(tactic| (k_here; (with_reducible show wpAny _ _ (subscriptTail _ _ (Value.ref _) (Value.int _ _)) _ _ _); k_dflt (refine' item_led ?N ?m ?a ?b ?x ?_; (case N => k_asm); (case m => k_mem); (case a => first | decide | (with_reducible assumption)); (case b => first | decide | (with_reducible assumption)); (case x => first | exact rfl | (with_reducible assumption)); k_whole)))
local macro_rules | `(tactic| walk_at "subscriptTail Subscript Name Name Constant ref int") => `(tactic| (k_here; (with_reducible show wpAny _ _ (subscriptTail _ _ (Value.ref _) (Value.int _ _)) _ _ _); k_dflt (refine' item_led ?N ?m ?a ?b ?x ?_; (case N => k_asm); (case m => k_mem); (case a => first | decide | (with_reducible assumption)); (case b => first | decide | (with_reducible assumption)); (case x => first | exact rfl | (with_reducible assumption)); k_whole)))
local macro_rules | `(tactic| walk_at "getItem ref int") => `(tactic| (k_here; (with_reducible show wpAny _ _ (getItem (Value.ref _) (Value.int _ _)) _ _ _); k_dflt (refine' getItem_led ?N ?m ?a ?b ?x ?_; (case N => k_asm); (case m => k_mem); (case a => first | decide | (with_reducible assumption)); (case b => first | decide | (with_reducible assumption)); (case x => first | exact rfl | (with_reducible assumption)); k_whole)))
local macro_rules | `(tactic| walk_at "subscriptTail Subscript Name Constant Constant ref int") => `(tactic| (k_here; (with_reducible show wpAny _ _ (subscriptTail _ _ (Value.ref _) (Value.int 0 _)) _ _ _); k_dflt (refine' item_tup0 ?N ?m ?_; (case N => k_asm); (case m => k_mem); k_whole)))
local macro_rules | `(tactic| walk_at "subscriptTail Subscript Name Name Constant ref int") => `(tactic| (k_here; (with_reducible show wpAny _ _ (subscriptTail _ _ (Value.ref _) (Value.int 0 _)) _ _ _); k_dflt (refine' item_tup0 ?N ?m ?_; (case N => k_asm); (case m => k_mem); k_whole)))
local macro_rules | `(tactic| walk_at "subscriptTail Call Name cons nil Constant ref int") => `(tactic| (k_here; (with_reducible show wpAny _ _ (subscriptTail _ _ (Value.ref _) (Value.int 0 _)) _ _ _); k_dflt (refine' item_tup0 ?N ?m ?_; (case N => k_asm); (case m => k_mem); k_whole)))
local macro_rules | `(tactic| walk_at "subscriptTail Subscript Name Constant Constant ref int") => `(tactic| (k_here; (with_reducible show wpAny _ _ (subscriptTail _ _ (Value.ref _) (Value.int 1 _)) _ _ _); k_dflt (refine' item_tup1 ?N ?m ?_; (case N => k_asm); (case m => k_mem); k_whole)))
local macro_rules | `(tactic| walk_at "subscriptTail Subscript Name Name Constant ref int") => `(tactic| (k_here; (with_reducible show wpAny _ _ (subscriptTail _ _ (Value.ref _) (Value.int 1 _)) _ _ _); k_dflt (refine' item_tup1 ?N ?m ?_; (case N => k_asm); (case m => k_mem); k_whole)))
local macro_rules | `(tactic| walk_at "subscriptTail Call Name cons nil Constant ref int") => `(tactic| (k_here; (with_reducible show wpAny _ _ (subscriptTail _ _ (Value.ref _) (Value.int 1 _)) _ _ _); k_dflt (refine' item_tup1 ?N ?m ?_; (case N => k_asm); (case m => k_mem); k_whole)))
local macro_rules | `(tactic| walk_at "subscriptTail Name Constant ref int") => `(tactic| (k_here; (with_reducible show wpAny _ _ (subscriptTail _ _ (Value.ref _) (Value.int 0 _)) _ _ _); k_dflt (refine' item_tup0 ?N ?m ?_; (case N => k_asm); (case m => ((refine' mem_sub ?oa ?ob; (case ob => with_reducible assumption); (case oa => kcj_all)))); k_whole)))
local macro_rules | `(tactic| walk_at "subscriptTail Name Constant ref int") => `(tactic| (k_here; (with_reducible show wpAny _ _ (subscriptTail _ _ (Value.ref _) (Value.int 1 _)) _ _ _); k_dflt (refine' item_tup1 ?N ?m ?_; (case N => k_asm); (case m => ((refine' mem_sub ?oa ?ob; (case ob => with_reducible assumption); (case oa => kcj_all)))); k_whole)))
local macro_rules | `(tactic| walk_at "compareOp NotEq int int") => `(tactic| (k_here; (with_reducible show wpAny _ _ (compareOp CmpOp.NotEq (Value.int _ _) (Value.int _ _)) _ _ _); k_dflt (refine' neK_int ?e ?_; (case e => with_reducible assumption); k_whole)))
local macro_rules | `(tactic| walk_at "exec For Name Call cons nil") => `(tactic| (k_here; k_dflt (refine For_C ?_)))
local macro_rules | `(tactic| walk_at "pyIter ref") => `(tactic| ((with_reducible show wpAny _ _ (pyIter (Value.ref _)) (LoopC _ _ _ _ _ _ _ _ _) _ _); (refine Stop.out ?_)))
local macro_rules | `(tactic| walk_at "UnrEnd") => `(tactic| (refine Stop.out ?_))
local macro_rules | `(tactic| walk_at "binaryOp FloorDiv int int") => `(tactic| ((with_reducible show wpAny _ _ (binaryOp _ (Value.int _ _) (Value.int _ _)) _ _ _); with_reducible refine fdiv_rule (by assumption) (by assumption) ?_; (try dsimp only)))
local macro_rules | `(tactic| walk_at "call ref") => `(tactic| (k_here; (with_reducible show wpAny _ _ (call (Value.ref 123) _) _ _ _); k_dflt (refine' rounded_use ?k1 ?k2 ?k3 ?k4 ?k5 ?kK ?kd ?ku ?hx ?i1 ?i2 ?hp ?hs ?_; (case k1 => k_asm); (case k2 => k_asm); (case k3 => k_asm); (case k4 => k_asm); (case k5 => k_asm); (case kK => first | exact rfl | assumption); (case kd => ktr_room); (case ku => ktr_units); (case hx => k_mem); (case i1 => exact rfl); (case i2 => exact rfl); (case hp => with_reducible assumption); (case hs => omega); k_whole); intro u' h' tk' F' N'; (try dsimp only); (try k_fold)))
local macro_rules | `(tactic| walk_at "call ref") => `(tactic| (k_here; (with_reducible show wpAny _ _ (call (Value.ref 81) _) _ _ _); k_dflt (refine' diff_use ?k1 ?k2 ?k3 ?k4 ?k5 ?kK ?kd ?ku ?g ?hx ?hy ?i1 ?i2 ?i3 ?i4 ?hp ?hq ?hs ?_; (case k1 => k_asm); (case k2 => k_asm); (case k3 => k_asm); (case k4 => k_asm); (case k5 => k_asm); (case kK => first | exact rfl | assumption); (case kd => ktr_room); (case ku => ktr_units); (case g => assumption); (case hx => k_mem); (case hy => k_mem); (case i1 => exact rfl); (case i2 => exact rfl); (case i3 => exact int_num); (case i4 => exact int_den); (case hp => with_reducible assumption); (case hq => with_reducible assumption); (case hs => omega); k_whole); intro D' u1' u2' c' h' tk' F' N' l1' sz'; (try dsimp only); (try k_fold)))
local macro_rules | `(tactic| walk_at "call ref") => `(tactic| (k_here; (with_reducible show wpAny _ _ (call (Value.ref 116) _) _ _ _); k_dflt (refine' order_use ?k1 ?k2 ?k3 ?k4 ?k5 ?kK ?kd ?ku ?hx ?hy ?i1 ?i2 ?i3 ?i4 ?hp ?hq ?hs ?_; (case k1 => k_asm); (case k2 => k_asm); (case k3 => k_asm); (case k4 => k_asm); (case k5 => k_asm); (case kK => first | exact rfl | assumption); (case kd => ktr_room); (case ku => ktr_units); (case hx => k_mem); (case hy => k_mem); (case i1 => exact rfl); (case i2 => exact rfl); (case i3 => first | exact half_num | exact mhalf_num); (case i4 => first | exact half_den | exact mhalf_den); (case hp => with_reducible assumption); (case hq => first | exact sz_half | exact sz_mhalf); (case hs => omega); k_whole); intro u' h' tk' F' N'; (try dsimp only); (try k_fold)))
local macro_rules | `(tactic| walk_at "call ref") => `(tactic| first
  | ((with_reducible show wpAny _ _ (call (Value.ref 136) _) _ _ _); (refine Stop.out ?_))
  | ((with_reducible show wpAny _ _ (call (Value.ref 160) _) _ _ _); (refine Stop.out ?_))
  | ((with_reducible show wpAny _ _ (call (Value.ref 165) _) _ _ _); (refine Stop.out ?_))
  | ((with_reducible show wpAny _ _ (call (Value.ref 170) _) _ _ _); (refine Stop.out ?_)))
local macro_rules | `(tactic| walk_at "execs cons For cons") => `(tactic| (refine Stop.out ?_))
local macro_rules | `(tactic| walk_at "execs cons If cons") => `(tactic| (refine Stop.out ?_))
local macro_rules | `(tactic| walk_at "execs cons Assign cons") => `(tactic| (refine Stop.out ?_))
theorem law_holds : PySem.Challenge.rw_sz0002_01.Holds := Mine.hd (by
  k_go0
  (all_goals try k_fold)
  rename PySem.Shared => s1
  have Gt := Mine.great_of ‹LooseAre _ _ _› (by decide +kernel)
  refine Stop.mk ?_
  refine' execs_cutL (J := JB 0 (fun _ _ _ => True)) ?F ?h1 ?h2
  (case F => k_asm)
  case h1 =>
    k_steps
    refine Stop.mk (MidL.intro (by k_asm) (by k_asm) ?_)
    (refine' JB.intro ?D1 ?D2 ?D3 ?D4 ?D5 ?D6 ?D7 ?D8 ?D9 ?d1 ?d2 ?d3 ?d4 ?d5 ?d6 ?d7 ?hv1 ?hv ?hl ?hk0 ?hk1 ?z; (case D1 => k_upd); (case D2 => k_upd); (case D3 => k_upd); (case D4 => k_upd); (case D5 => k_upd); (case D6 => k_upd); (case D7 => k_upd); (case D8 => k_upd); (case D9 => k_upd); (case d1 => with_reducible assumption); (case d2 => with_reducible assumption); (case d3 => with_reducible assumption); (case d4 => with_reducible assumption); (case d5 => with_reducible assumption); (case d6 => with_reducible assumption); (case d7 => with_reducible assumption); (case hv1 => exact rfl); (case hv => with_reducible assumption); (case hl => first | assumption | omega); (case hk0 => omega); (case hk1 => omega))
    case z => trivial
  case h2 =>
    rintro h2 tk2 m2 nw2 F2 N2 ⟨P, S, vs, ns, k, t, c, c2, o1, o2, o3, o4, o5, o6, o7, v1, v2, v3, v4, v5, v6, v7, rest, d1, d2, d3, d4, d5, d6, d7, rfl, rfl, hvs, hls, hk0, hk1, nSP, nc1, nc2, nc3, nc4, nc5, nc6, nc7, nP1, nP2, nP3, nP4, nP5, nP6, nP7, nS1, nS2, nS3, nS4, nS5, nS6, nS7, r1, r2, r3, r4, r5, r6, r7, rS, rP, z⟩
    refine Stop.mk ?_
    refine' execs_cutL (J := JB 60 (fun mm v2 rest => ∃ D1 D2 D3 M1 M2 M3, mm (PySem.Str.ofString "one") = some (.ref D1) ∧ mm (PySem.Str.ofString "other") = some (.ref D2) ∧ v2 = some (.ref D3) ∧ MatAt 2 2 rest D1 M1 2 ∧ MatAt 2 2 rest D2 M2 2 ∧ MatAt 3 3 rest D3 M3 2 ∧ (∀ i j, i < 2 → j < 2 → Ent (M1 i j)) ∧ (∀ i j, i < 2 → j < 2 → Ent (M2 i j)) ∧ (∀ i j, i < 3 → j < 3 → Ent (M3 i j)))) ?F ?h1 ?h2
    (case F => k_asm)
    case h1 =>
      k_steps
      refine Stop.mk ?_
      refine' matrix2_law (S := S) (pre := [(S, listObj vs c2), (s1.heap.objs.size + 1 + 1 + 1 + 1 + 1 + 1 + 1, o7), (s1.heap.objs.size + 1 + 1 + 1 + 1 + 1 + 1, o6), (s1.heap.objs.size + 1 + 1 + 1 + 1 + 1, o5), (s1.heap.objs.size + 1 + 1 + 1 + 1, o4), (s1.heap.objs.size + 1 + 1 + 1, o3), (s1.heap.objs.size + 1 + 1, o2), (s1.heap.objs.size + 1, o1)]) (rest := rest) ?k1 ?k2 ?k3 ?k4 ?k5 ?kK ?kd ?ku ?g ?hS ?hv ?hl ?hk0 ?hk1 ?hpre ?hoff ?ret
      (case k1 => k_asm)
      (case k2 => k_asm)
      (case k3 => k_asm)
      (case k4 => exact N2)
      (case k5 => k_asm)
      (case kK => first | exact rfl | assumption)
      (case kd => ktr_room)
      (case ku => ktr_units)
      (case g => assumption)
      (case hS => exact .head _)
      (case hv => with_reducible assumption)
      (case hl => assumption)
      (case hk0 => omega)
      (case hk1 => omega)
      (case hpre => exact jb_pre nSP nc1 nc2 nc3 nc4 nc5 nc6 nc7)
      (case hoff => exact jb_off rS rP r1 r2 r3 r4 r5 r6 r7)
      case ret =>
      intro Dm1 k1' t1' rest1 M1 h' tk' F' Nm1 hk1a hk1b off1 sub1 mat1 ent1
      simp only [List.cons_append, List.nil_append] at Nm1
      k_steps
      refine Stop.mk ?_
      refine' matrix2_law (S := S) (pre := [(S, listObj vs c2), (s1.heap.objs.size + 1 + 1 + 1 + 1 + 1 + 1 + 1, o7), (s1.heap.objs.size + 1 + 1 + 1 + 1 + 1 + 1, o6), (s1.heap.objs.size + 1 + 1 + 1 + 1 + 1, o5), (s1.heap.objs.size + 1 + 1 + 1 + 1, o4), (s1.heap.objs.size + 1 + 1 + 1, o3), (s1.heap.objs.size + 1 + 1, o2), (s1.heap.objs.size + 1, o1)]) (rest := rest1) ?k1 ?k2 ?k3 ?k4 ?k5 ?kK ?kd ?ku ?g ?hS ?hv ?hl ?hk0 ?hk1 ?hpre ?hoff ?ret
      (case k1 => k_asm)
      (case k2 => k_asm)
      (case k3 => k_asm)
      (case k4 => exact Nm1)
      (case k5 => k_asm)
      (case kK => first | exact rfl | assumption)
      (case kd => ktr_room)
      (case ku => ktr_units)
      (case g => assumption)
      (case hS => exact .head _)
      (case hv => with_reducible assumption)
      (case hl => assumption)
      (case hk0 => omega)
      (case hk1 => omega)
      (case hpre => exact jb_pre nSP nc1 nc2 nc3 nc4 nc5 nc6 nc7)
      (case hoff => exact off1)
      case ret =>
      intro Dm2 k2' t2' rest2 M2 h' tk' F' Nm2 hk2a hk2b off2 sub2 mat2 ent2
      simp only [List.cons_append, List.nil_append] at Nm2
      k_steps
      refine Stop.mk ?_
      refine' matrix3_law (S := S) (pre := [(S, listObj vs c2), (s1.heap.objs.size + 1 + 1 + 1 + 1 + 1 + 1 + 1, o7), (s1.heap.objs.size + 1 + 1 + 1 + 1 + 1 + 1, o6), (s1.heap.objs.size + 1 + 1 + 1 + 1 + 1, o5), (s1.heap.objs.size + 1 + 1 + 1 + 1, o4), (s1.heap.objs.size + 1 + 1 + 1, o3), (s1.heap.objs.size + 1 + 1, o2), (s1.heap.objs.size + 1, o1)]) (rest := rest2) ?k1 ?k2 ?k3 ?k4 ?k5 ?kK ?kd ?ku ?g ?hS ?hv ?hl ?hk0 ?hk1 ?hpre ?hoff ?ret
      (case k1 => k_asm)
      (case k2 => k_asm)
      (case k3 => k_asm)
      (case k4 => exact Nm2)
      (case k5 => k_asm)
      (case kK => first | exact rfl | assumption)
      (case kd => ktr_room)
      (case ku => ktr_units)
      (case g => assumption)
      (case hS => exact .head _)
      (case hv => with_reducible assumption)
      (case hl => assumption)
      (case hk0 => omega)
      (case hk1 => omega)
      (case hpre => exact jb_pre nSP nc1 nc2 nc3 nc4 nc5 nc6 nc7)
      (case hoff => exact off2)
      case ret =>
      intro Dm3 k3' t3' rest3 M3 h' tk' F' Nm3 hk3a hk3b off3 sub3 mat3 ent3
      simp only [List.cons_append, List.nil_append] at Nm3
      obtain ⟨x0, x00, x1, x2, x3, x4, x5, x6, x7⟩ := jb_back off3
      k_steps
      refine Stop.mk (MidL.intro (by k_asm) (by k_asm) ?_)
      (refine' JB.intro (P := P) (S := S) ?D1 ?D2 ?D3 ?D4 ?D5 ?D6 ?D7 ?D8 ?D9 ?d1 ?d2 ?d3 ?d4 ?d5 ?d6 ?d7 ?hv1 ?hv ?hl ?hk0 ?hk1 ?z; (case D1 => k_upd); (case D2 => k_upd); (case D3 => k_upd); (case D4 => k_upd); (case D5 => k_upd); (case D6 => k_upd); (case D7 => k_upd); (case D8 => k_upd); (case D9 => k_upd); (case d1 => with_reducible assumption); (case d2 => with_reducible assumption); (case d3 => with_reducible assumption); (case d4 => with_reducible assumption); (case d5 => with_reducible assumption); (case d6 => with_reducible assumption); (case d7 => with_reducible assumption); (case hv1 => exact rfl); (case hv => with_reducible assumption); (case hl => first | assumption | omega); (case hk0 => omega); (case hk1 => omega))
      case z => exact ⟨Dm1, Dm2, Dm3, M1, M2, M3, rfl, rfl, rfl, ((mat1.sub sub2).sub sub3).sub (by kcj_all), (mat2.sub sub3).sub (by kcj_all), mat3.sub (by kcj_all), ent1, ent2, ent3⟩
    case h2 =>
      try clear z
      try clear rP
      try clear rS
      try clear r7
      try clear r6
      try clear r5
      try clear r4
      try clear r3
      try clear r2
      try clear r1
      try clear nS7
      try clear nS6
      try clear nS5
      try clear nS4
      try clear nS3
      try clear nS2
      try clear nS1
      try clear nP7
      try clear nP6
      try clear nP5
      try clear nP4
      try clear nP3
      try clear nP2
      try clear nP1
      try clear nc7
      try clear nc6
      try clear nc5
      try clear nc4
      try clear nc3
      try clear nc2
      try clear nc1
      try clear nSP
      try clear hk1
      try clear hk0
      try clear hls
      try clear hvs
      try clear d7
      try clear d6
      try clear d5
      try clear d4
      try clear d3
      try clear d2
      try clear d1
      try clear rest
      try clear v7
      try clear v6
      try clear v5
      try clear v4
      try clear v3
      try clear v2
      try clear v1
      try clear o7
      try clear o6
      try clear o5
      try clear o4
      try clear o3
      try clear o2
      try clear o1
      try clear c2
      try clear c
      try clear t
      try clear k
      try clear ns
      try clear vs
      try clear S
      try clear P
      try clear N2
      try clear F2
      try clear m2
      rintro h3 tk3 m3 nw3 F3 N3 ⟨P, S, vs, ns, k, t, c, c2, o1, o2, o3, o4, o5, o6, o7, v1, v2, v3, v4, v5, v6, v7, rest, d1, d2, d3, d4, d5, d6, d7, rfl, rfl, hvs, hls, hk0, hk1, nSP, nc1, nc2, nc3, nc4, nc5, nc6, nc7, nP1, nP2, nP3, nP4, nP5, nP6, nP7, nS1, nS2, nS3, nS4, nS5, nS6, nS7, r1, r2, r3, r4, r5, r6, r7, rS, rP, D1, D2, D3, p, q, r, hone, hother, rfl, mat1, mat2, mat3, ent1, ent2, ent3⟩
      refine Stop.mk ?_
      refine' execs_cutL (J := JC (fun mm v1 v2 v3 v4 v5 v6 v7 rest => ∃ D1 D2 D3 G p q r b, mm (PySem.Str.ofString "one") = some (.ref D1) ∧ mm (PySem.Str.ofString "other") = some (.ref D2) ∧ v2 = some (.ref D3) ∧ v3 = some (.ref G) ∧ Core D1 D2 D3 G p q r b rest ∧ (∀ i j, i < 2 → j < 2 → Ent (p i j)) ∧ (∀ i j, i < 2 → j < 2 → Ent (q i j)) ∧ (∀ i j, i < 3 → j < 3 → Ent (r i j)) ∧ (∀ j, j < 3 → (b j).den = 1))) ?F ?h1 ?h2
      (case F => k_asm)
      case h1 =>
        k_steps
        refine Stop.mk (MidL.intro (by k_asm) (by k_asm) ?_)
        (refine' JC.intro ?D1 ?D2 ?D3 ?D4 ?D5 ?D6 ?D7 ?d1 ?d2 ?d3 ?d4 ?d5 ?d6 ?d7 ?z; (case D1 => k_upd); (case D2 => k_upd); (case D3 => k_upd); (case D4 => k_upd); (case D5 => k_upd); (case D6 => k_upd); (case D7 => k_upd); (case d1 => with_reducible assumption); (case d2 => with_reducible assumption); (case d3 => with_reducible assumption); (case d4 => with_reducible assumption); (case d5 => with_reducible assumption); (case d6 => with_reducible assumption); (case d7 => with_reducible assumption); skip)
        case z => exact ⟨D1, D2, D3, _, p, q, r, _root_.Mine.r3 _ _ _, hone, hother, rfl, rfl, ⟨mat1.sub (by kcj_all), mat2.sub (by kcj_all), mat3.sub (by kcj_all), RowAt.of3 (.head _) (by k_mem) (Ent.sz (by assumption)) (Nat.le_refl _) rfl (by k_mem) (Ent.sz (by assumption)) (Nat.le_refl _) rfl (by k_mem) (Ent.sz (by assumption)) (Nat.le_refl _) rfl⟩, ent1, ent2, ent3, dens _ _ _⟩
      case h2 =>
        try clear ent3
        try clear ent2
        try clear ent1
        try clear mat3
        try clear mat2
        try clear mat1
        try clear hother
        try clear hone
        try clear r
        try clear q
        try clear p
        try clear D3
        try clear D2
        try clear D1
        try clear rP
        try clear rS
        try clear r7
        try clear r6
        try clear r5
        try clear r4
        try clear r3
        try clear r2
        try clear r1
        try clear nS7
        try clear nS6
        try clear nS5
        try clear nS4
        try clear nS3
        try clear nS2
        try clear nS1
        try clear nP7
        try clear nP6
        try clear nP5
        try clear nP4
        try clear nP3
        try clear nP2
        try clear nP1
        try clear nc7
        try clear nc6
        try clear nc5
        try clear nc4
        try clear nc3
        try clear nc2
        try clear nc1
        try clear nSP
        try clear hk1
        try clear hk0
        try clear hls
        try clear hvs
        try clear d7
        try clear d6
        try clear d5
        try clear d4
        try clear d3
        try clear d2
        try clear d1
        try clear rest
        try clear v7
        try clear v6
        try clear v5
        try clear v4
        try clear v3
        try clear v2
        try clear v1
        try clear o7
        try clear o6
        try clear o5
        try clear o4
        try clear o3
        try clear o2
        try clear o1
        try clear c2
        try clear c
        try clear t
        try clear k
        try clear ns
        try clear vs
        try clear S
        try clear P
        try clear N3
        try clear F3
        try clear m3
        rintro h4 tk4 m4 nw4 F4 N4 ⟨o1, o2, o3, o4, o5, o6, o7, v1, v2, v3, v4, v5, v6, v7, rest, d1, d2, d3, d4, d5, d6, d7, rfl, r1, r2, r3, r4, r5, r6, r7, D1, D2, D3, G, p, q, r, b, hone, hother, rfl, rfl, core, ent1, ent2, ent3, bden⟩
        refine Stop.mk ?_
        refine' execs_cutL (J := JC (fun mm v1 v2 v3 v4 v5 v6 v7 rest => mm (PySem.Str.ofString "one") = some (.ref D1) ∧ mm (PySem.Str.ofString "other") = some (.ref D2) ∧ v2 = some (.ref D3) ∧ v3 = some (.ref G) ∧ Core D1 D2 D3 G p q r b rest ∧ Has mm "left" rest (p 0 0 * p 1 1 + -(p 0 1 * p 1 0)) 9 ∧ Has mm "right" rest (q 0 0 * q 1 1 + -(q 0 1 * q 1 0)) 9 ∧ Has mm "below" rest (r 0 0 * (r 1 1 * r 2 2 + -(r 1 2 * r 2 1)) + -(r 0 1 * (r 1 0 * r 2 2 + -(r 1 2 * r 2 0))) + r 0 2 * (r 1 0 * r 2 1 + -(r 1 1 * r 2 0))) 35)) ?F ?h1 ?h2
        (case F => k_asm)
        case h1 =>
          obtain ⟨mat1, mat2, mat3, rowg⟩ := core
          obtain ⟨xvs, xc, xl, xrows⟩ := mat1
          have xmat : MatAt 2 2 rest _ p 2 := ⟨_, _, xl, xrows⟩
          obtain ⟨xr0, xr1, rfl, xw0, xw1⟩ := xrows.open2
          replace xw0 : RowAt 2 rest xr0 (p 0) 2 := xw0
          obtain ⟨xc0, xa00, xs00, xu00, xk00, xa01, xs01, xu01, xk01, xh0, xm00, xm01, xz00, xz01⟩ := xw0.open2
          replace xw1 : RowAt 2 rest xr1 (p 1) 2 := xw1
          obtain ⟨xc1, xa10, xs10, xu10, xk10, xa11, xs11, xu11, xk11, xh1, xm10, xm11, xz10, xz11⟩ := xw1.open2
          obtain ⟨yvs, yc, yl, yrows⟩ := mat2
          have ymat : MatAt 2 2 rest _ q 2 := ⟨_, _, yl, yrows⟩
          obtain ⟨yr0, yr1, rfl, yw0, yw1⟩ := yrows.open2
          replace yw0 : RowAt 2 rest yr0 (q 0) 2 := yw0
          obtain ⟨yc0, ya00, ys00, yu00, yk00, ya01, ys01, yu01, yk01, yh0, ym00, ym01, yz00, yz01⟩ := yw0.open2
          replace yw1 : RowAt 2 rest yr1 (q 1) 2 := yw1
          obtain ⟨yc1, ya10, ys10, yu10, yk10, ya11, ys11, yu11, yk11, yh1, ym10, ym11, yz10, yz11⟩ := yw1.open2
          obtain ⟨zvs, zc, zl, zrows⟩ := mat3
          have zmat : MatAt 3 3 rest _ r 2 := ⟨_, _, zl, zrows⟩
          obtain ⟨zr0, zr1, zr2, rfl, zw0, zw1, zw2⟩ := zrows.open3
          replace zw0 : RowAt 3 rest zr0 (r 0) 2 := zw0
          obtain ⟨zc0, za00, zs00, zu00, zk00, za01, zs01, zu01, zk01, za02, zs02, zu02, zk02, zh0, zm00, zm01, zm02, zz00, zz01, zz02⟩ := zw0.open3
          replace zw1 : RowAt 3 rest zr1 (r 1) 2 := zw1
          obtain ⟨zc1, za10, zs10, zu10, zk10, za11, zs11, zu11, zk11, za12, zs12, zu12, zk12, zh1, zm10, zm11, zm12, zz10, zz11, zz12⟩ := zw1.open3
          replace zw2 : RowAt 3 rest zr2 (r 2) 2 := zw2
          obtain ⟨zc2, za20, zs20, zu20, zk20, za21, zs21, zu21, zk21, za22, zs22, zu22, zk22, zh2, zm20, zm21, zm22, zz20, zz21, zz22⟩ := zw2.open3
          k_steps
          refine Stop.mk (MidL.intro (by k_asm) (by k_asm) ?_)
          (refine' JC.intro ?D1 ?D2 ?D3 ?D4 ?D5 ?D6 ?D7 ?d1 ?d2 ?d3 ?d4 ?d5 ?d6 ?d7 ?z; (case D1 => k_upd); (case D2 => k_upd); (case D3 => k_upd); (case D4 => k_upd); (case D5 => k_upd); (case D6 => k_upd); (case D7 => k_upd); (case d1 => with_reducible assumption); (case d2 => with_reducible assumption); (case d3 => with_reducible assumption); (case d4 => with_reducible assumption); (case d5 => with_reducible assumption); (case d6 => with_reducible assumption); (case d7 => with_reducible assumption); skip)
          case z => exact ⟨hone, hother, rfl, rfl, Core.sub ⟨xmat, ymat, zmat, rowg⟩ (by kcj_all), ⟨_, _, _, _, rfl, by k_mem, by with_reducible assumption⟩, ⟨_, _, _, _, rfl, by k_mem, by with_reducible assumption⟩, ⟨_, _, _, _, rfl, by k_mem, by with_reducible assumption⟩⟩
        case h2 =>
          try clear core
          try clear hother
          try clear hone
          try clear r7
          try clear r6
          try clear r5
          try clear r4
          try clear r3
          try clear r2
          try clear r1
          try clear d7
          try clear d6
          try clear d5
          try clear d4
          try clear d3
          try clear d2
          try clear d1
          try clear rest
          try clear v7
          try clear v6
          try clear v5
          try clear v4
          try clear v3
          try clear v2
          try clear v1
          try clear o7
          try clear o6
          try clear o5
          try clear o4
          try clear o3
          try clear o2
          try clear o1
          try clear N4
          try clear F4
          try clear m4
          rintro h5 tk5 m5 nw5 F5 N5 ⟨o1, o2, o3, o4, o5, o6, o7, v1, v2, v3, v4, v5, v6, v7, rest, d1, d2, d3, d4, d5, d6, d7, rfl, r1, r2, r3, r4, r5, r6, r7, hone, hother, rfl, rfl, core, ⟨la, ls, lu, lk, hleft, lm, lz⟩, ⟨ra, rs, ru, rk, hright, rm, rz⟩, ⟨ba, bs, bu, bk, hbelow, bm, bz⟩⟩
          refine Stop.mk ?_
          refine' execs_cutL (J := JC (fun mm v1 v2 v3 v4 v5 v6 v7 rest => mm (PySem.Str.ofString "one") = some (.ref D1) ∧ mm (PySem.Str.ofString "other") = some (.ref D2) ∧ v2 = some (.ref D3) ∧ v3 = some (.ref G) ∧ Core D1 D2 D3 G p q r b rest ∧ Has mm "left" rest (p 0 0 * p 1 1 + -(p 0 1 * p 1 0)) 9 ∧ Has mm "right" rest (q 0 0 * q 1 1 + -(q 0 1 * q 1 0)) 9 ∧ Has mm "below" rest (r 0 0 * (r 1 1 * r 2 2 + -(r 1 2 * r 2 1)) + -(r 0 1 * (r 1 0 * r 2 2 + -(r 1 2 * r 2 0))) + r 0 2 * (r 1 0 * r 2 1 + -(r 1 1 * r 2 0))) 35)) ?F ?h1 ?h2
          (case F => k_asm)
          case h1 =>
            obtain ⟨mat1, mat2, mat3, rowg⟩ := core
            obtain ⟨xvs, xc, xl, xrows⟩ := mat1
            have xmat : MatAt 2 2 rest _ p 2 := ⟨_, _, xl, xrows⟩
            obtain ⟨xr0, xr1, rfl, xw0, xw1⟩ := xrows.open2
            replace xw0 : RowAt 2 rest xr0 (p 0) 2 := xw0
            obtain ⟨xc0, xa00, xs00, xu00, xk00, xa01, xs01, xu01, xk01, xh0, xm00, xm01, xz00, xz01⟩ := xw0.open2
            replace xw1 : RowAt 2 rest xr1 (p 1) 2 := xw1
            obtain ⟨xc1, xa10, xs10, xu10, xk10, xa11, xs11, xu11, xk11, xh1, xm10, xm11, xz10, xz11⟩ := xw1.open2
            obtain ⟨yvs, yc, yl, yrows⟩ := mat2
            have ymat : MatAt 2 2 rest _ q 2 := ⟨_, _, yl, yrows⟩
            obtain ⟨yr0, yr1, rfl, yw0, yw1⟩ := yrows.open2
            replace yw0 : RowAt 2 rest yr0 (q 0) 2 := yw0
            obtain ⟨yc0, ya00, ys00, yu00, yk00, ya01, ys01, yu01, yk01, yh0, ym00, ym01, yz00, yz01⟩ := yw0.open2
            replace yw1 : RowAt 2 rest yr1 (q 1) 2 := yw1
            obtain ⟨yc1, ya10, ys10, yu10, yk10, ya11, ys11, yu11, yk11, yh1, ym10, ym11, yz10, yz11⟩ := yw1.open2
            k_steps
            refine Stop.mk ?_
            refine' times_law ?k1 ?k2 ?k3 ?k4 ?k5 ?kK ?kd ?ku ?g ?xl ?xh0 ?xh1 ?xm00 ?xm01 ?xm10 ?xm11 ?xz00 ?xz01 ?xz10 ?xz11 ?yl ?yh0 ?yh1 ?ym00 ?ym01 ?ym10 ?ym11 ?yz00 ?yz01 ?yz10 ?yz11 ?ret
            (case k1 => k_asm)
            (case k2 => k_asm)
            (case k3 => k_asm)
            (case k4 => k_asm)
            (case k5 => k_asm)
            (case kK => first | exact rfl | assumption)
            (case kd => ktr_room)
            (case ku => ktr_units)
            (case g => assumption)
            (case xl => k_mem)
            (case xh0 => k_mem)
            (case xh1 => k_mem)
            (case xm00 => k_mem)
            (case xm01 => k_mem)
            (case xm10 => k_mem)
            (case xm11 => k_mem)
            (case xz00 => with_reducible assumption)
            (case xz01 => with_reducible assumption)
            (case xz10 => with_reducible assumption)
            (case xz11 => with_reducible assumption)
            (case yl => k_mem)
            (case yh0 => k_mem)
            (case yh1 => k_mem)
            (case ym00 => k_mem)
            (case ym01 => k_mem)
            (case ym10 => k_mem)
            (case ym11 => k_mem)
            (case yz00 => with_reducible assumption)
            (case yz01 => with_reducible assumption)
            (case yz10 => with_reducible assumption)
            (case yz11 => with_reducible assumption)
            case ret =>
            intro tD tc tr0 tc0 tr1 tc1 ta00 ts00 tu00 tk00 ta01 ts01 tu01 tk01 ta10 ts10 tu10 tk10 ta11 ts11 tu11 tk11 tl2 h' tk' F' Nt tml tmh0 tmh1 tm00 tm01 tm10 tm11 tz00 tz01 tz10 tz11 apT
            obtain ⟨rest2, eg2, in2, sub2⟩ := grown (tl := tl2) (rest := rest)
            refine' grow_then (rest := rest) Nt ?gg2 ?gk2
            (case gg2 => exact .cons (.cons (.cons (.cons (.cons (.cons (.cons (.here))))))))
            case gk2 =>
            intro Ng2
            replace r1 := grow_off eg2 apT (by k_mem) r1
            replace r2 := grow_off eg2 apT (by k_mem) r2
            replace r3 := grow_off eg2 apT (by k_mem) r3
            replace r4 := grow_off eg2 apT (by k_mem) r4
            replace r5 := grow_off eg2 apT (by k_mem) r5
            replace r6 := grow_off eg2 apT (by k_mem) r6
            replace r7 := grow_off eg2 apT (by k_mem) r7
            rw [← eg2] at Ng2
            clear Nt apT
            replace tml := in2 _ tml
            replace tmh0 := in2 _ tmh0
            replace tmh1 := in2 _ tmh1
            replace tm00 := in2 _ tm00
            replace tm01 := in2 _ tm01
            replace tm10 := in2 _ tm10
            replace tm11 := in2 _ tm11
            clear in2 eg2
            k_steps
            refine Stop.mk (MidL.intro (by k_asm) (by k_asm) ?_)
            (refine' JC.intro ?D1 ?D2 ?D3 ?D4 ?D5 ?D6 ?D7 ?d1 ?d2 ?d3 ?d4 ?d5 ?d6 ?d7 ?z; (case D1 => k_upd); (case D2 => k_upd); (case D3 => k_upd); (case D4 => k_upd); (case D5 => k_upd); (case D6 => k_upd); (case D7 => k_upd); (case d1 => with_reducible assumption); (case d2 => with_reducible assumption); (case d3 => with_reducible assumption); (case d4 => with_reducible assumption); (case d5 => with_reducible assumption); (case d6 => with_reducible assumption); (case d7 => with_reducible assumption); skip)
            case z => exact ⟨hone, hother, rfl, rfl, Core.sub ⟨xmat, ymat, mat3, rowg⟩ (by kcj_all), ⟨_, _, _, _, hleft, by k_mem, lz⟩, ⟨_, _, _, _, hright, by k_mem, rz⟩, ⟨_, _, _, _, hbelow, by k_mem, bz⟩⟩
          case h2 =>
            try clear bz
            try clear bm
            try clear hbelow
            try clear bk
            try clear bu
            try clear bs
            try clear ba
            try clear rz
            try clear rm
            try clear hright
            try clear rk
            try clear ru
            try clear rs
            try clear ra
            try clear lz
            try clear lm
            try clear hleft
            try clear lk
            try clear lu
            try clear ls
            try clear la
            try clear core
            try clear hother
            try clear hone
            try clear r7
            try clear r6
            try clear r5
            try clear r4
            try clear r3
            try clear r2
            try clear r1
            try clear d7
            try clear d6
            try clear d5
            try clear d4
            try clear d3
            try clear d2
            try clear d1
            try clear rest
            try clear v7
            try clear v6
            try clear v5
            try clear v4
            try clear v3
            try clear v2
            try clear v1
            try clear o7
            try clear o6
            try clear o5
            try clear o4
            try clear o3
            try clear o2
            try clear o1
            try clear N5
            try clear F5
            try clear m5
            rintro h6 tk6 m6 nw6 F6 N6 ⟨o1, o2, o3, o4, o5, o6, o7, v1, v2, v3, v4, v5, v6, v7, rest, d1, d2, d3, d4, d5, d6, d7, rfl, r1, r2, r3, r4, r5, r6, r7, hone, hother, rfl, rfl, core, ⟨la, ls, lu, lk, hleft, lm, lz⟩, ⟨ra, rs, ru, rk, hright, rm, rz⟩, ⟨ba, bs, bu, bk, hbelow, bm, bz⟩⟩
            refine Stop.mk ?_
            refine' execs_cutL (J := JC (fun mm v1 v2 v3 v4 v5 v6 v7 rest => mm (PySem.Str.ofString "one") = some (.ref D1) ∧ mm (PySem.Str.ofString "other") = some (.ref D2) ∧ v2 = some (.ref D3) ∧ v3 = some (.ref G) ∧ Core D1 D2 D3 G p q r b rest ∧ Has mm "left" rest (p 0 0 * p 1 1 + -(p 0 1 * p 1 0)) 9 ∧ Has mm "right" rest (q 0 0 * q 1 1 + -(q 0 1 * q 1 0)) 9 ∧ Has mm "below" rest (r 0 0 * (r 1 1 * r 2 2 + -(r 1 2 * r 2 1)) + -(r 0 1 * (r 1 0 * r 2 2 + -(r 1 2 * r 2 0))) + r 0 2 * (r 1 0 * r 2 1 + -(r 1 1 * r 2 0))) 35 ∧ CellRat v4 rest 6)) ?F ?h1 ?h2
            (case F => k_asm)
            case h1 =>
              obtain ⟨mat1, mat2, mat3, rowg⟩ := core
              have growg := rowg
              obtain ⟨gc, ga0, gs0, gu0, gk0, ga1, gs1, gu1, gk1, ga2, gs2, gu2, gk2, gh, gm0, gm1, gm2, gz0, gz1, gz2⟩ := rowg.open3
              obtain ⟨hq0, hq1⟩ := sq_bounds gz0.1
              have hqf : Fit (b 0).num := gz0.fitN (by decide)
              k_steps
              refine Stop.mk (MidL.intro (by k_asm) (by k_asm) ?_)
              (refine' JC.intro ?D1 ?D2 ?D3 ?D4 ?D5 ?D6 ?D7 ?d1 ?d2 ?d3 ?d4 ?d5 ?d6 ?d7 ?z; (case D1 => k_upd); (case D2 => k_upd); (case D3 => k_upd); (case D4 => k_upd); (case D5 => k_upd); (case D6 => k_upd); (case D7 => k_upd); (case d1 => with_reducible assumption); (case d2 => with_reducible assumption); (case d3 => with_reducible assumption); (case d4 => with_reducible assumption); (case d5 => with_reducible assumption); (case d6 => with_reducible assumption); (case d7 => with_reducible assumption); skip)
              case z => exact ⟨hone, hother, rfl, rfl, Core.sub ⟨mat1, mat2, mat3, growg⟩ (by kcj_all), ⟨_, _, _, _, hleft, by k_mem, lz⟩, ⟨_, _, _, _, hright, by k_mem, rz⟩, ⟨_, _, _, _, hbelow, by k_mem, bz⟩, _, _, _, _, _, rfl, by k_mem, by with_reducible assumption⟩
            case h2 =>
              try clear bz
              try clear bm
              try clear hbelow
              try clear bk
              try clear bu
              try clear bs
              try clear ba
              try clear rz
              try clear rm
              try clear hright
              try clear rk
              try clear ru
              try clear rs
              try clear ra
              try clear lz
              try clear lm
              try clear hleft
              try clear lk
              try clear lu
              try clear ls
              try clear la
              try clear core
              try clear hother
              try clear hone
              try clear r7
              try clear r6
              try clear r5
              try clear r4
              try clear r3
              try clear r2
              try clear r1
              try clear d7
              try clear d6
              try clear d5
              try clear d4
              try clear d3
              try clear d2
              try clear d1
              try clear rest
              try clear v7
              try clear v6
              try clear v5
              try clear v4
              try clear v3
              try clear v2
              try clear v1
              try clear o7
              try clear o6
              try clear o5
              try clear o4
              try clear o3
              try clear o2
              try clear o1
              try clear N6
              try clear F6
              try clear m6
              rintro h7 tk7 m7 nw7 F7 N7 ⟨o1, o2, o3, o4, o5, o6, o7, v1, v2, v3, v4, v5, v6, v7, rest, d1, d2, d3, d4, d5, d6, d7, rfl, r1, r2, r3, r4, r5, r6, r7, hone, hother, rfl, rfl, core, ⟨la, ls, lu, lk, hleft, lm, lz⟩, ⟨ra, rs, ru, rk, hright, rm, rz⟩, ⟨ba, bs, bu, bk, hbelow, bm, bz⟩, ⟨o, oa, os, ou, ok, rfl, om, oz⟩⟩
              refine Stop.mk ?_
              refine' execs_cutL (J := JC (fun mm v1 v2 v3 v4 v5 v6 v7 rest => mm (PySem.Str.ofString "one") = some (.ref D1) ∧ mm (PySem.Str.ofString "other") = some (.ref D2) ∧ v2 = some (.ref D3) ∧ v3 = some (.ref G) ∧ Core D1 D2 D3 G p q r b rest ∧ Has mm "left" rest (p 0 0 * p 1 1 + -(p 0 1 * p 1 0)) 9 ∧ Has mm "right" rest (q 0 0 * q 1 1 + -(q 0 1 * q 1 0)) 9 ∧ Has mm "below" rest (r 0 0 * (r 1 1 * r 2 2 + -(r 1 2 * r 2 1)) + -(r 0 1 * (r 1 0 * r 2 2 + -(r 1 2 * r 2 0))) + r 0 2 * (r 1 0 * r 2 1 + -(r 1 1 * r 2 0))) 35)) ?F ?h1 ?h2
              (case F => k_asm)
              case h1 =>
                obtain ⟨mat1, mat2, mat3, rowg⟩ := core
                obtain ⟨yvs, yc, yl, yrows⟩ := mat2
                have ymat : MatAt 2 2 rest _ q 2 := ⟨_, _, yl, yrows⟩
                obtain ⟨yr0, yr1, rfl, yw0, yw1⟩ := yrows.open2
                replace yw0 : RowAt 2 rest yr0 (q 0) 2 := yw0
                obtain ⟨yc0, ya00, ys00, yu00, yk00, ya01, ys01, yu01, yk01, yh0, ym00, ym01, yz00, yz01⟩ := yw0.open2
                replace yw1 : RowAt 2 rest yr1 (q 1) 2 := yw1
                obtain ⟨yc1, ya10, ys10, yu10, yk10, ya11, ys11, yu11, yk11, yh1, ym10, ym11, yz10, yz11⟩ := yw1.open2
                k_steps
                refine Stop.mk (MidL.intro (by k_asm) (by k_asm) ?_)
                (refine' JC.intro ?D1 ?D2 ?D3 ?D4 ?D5 ?D6 ?D7 ?d1 ?d2 ?d3 ?d4 ?d5 ?d6 ?d7 ?z; (case D1 => k_upd); (case D2 => k_upd); (case D3 => k_upd); (case D4 => k_upd); (case D5 => k_upd); (case D6 => k_upd); (case D7 => k_upd); (case d1 => with_reducible assumption); (case d2 => with_reducible assumption); (case d3 => with_reducible assumption); (case d4 => with_reducible assumption); (case d5 => with_reducible assumption); (case d6 => with_reducible assumption); (case d7 => with_reducible assumption); skip)
                case z => exact ⟨hone, hother, rfl, rfl, Core.sub ⟨mat1, ymat, mat3, rowg⟩ (by kcj_all), ⟨_, _, _, _, hleft, by k_mem, lz⟩, ⟨_, _, _, _, hright, by k_mem, rz⟩, ⟨_, _, _, _, hbelow, by k_mem, bz⟩⟩
              case h2 =>
                try clear oz
                try clear om
                try clear ok
                try clear ou
                try clear os
                try clear oa
                try clear o
                try clear bz
                try clear bm
                try clear hbelow
                try clear bk
                try clear bu
                try clear bs
                try clear ba
                try clear rz
                try clear rm
                try clear hright
                try clear rk
                try clear ru
                try clear rs
                try clear ra
                try clear lz
                try clear lm
                try clear hleft
                try clear lk
                try clear lu
                try clear ls
                try clear la
                try clear core
                try clear hother
                try clear hone
                try clear r7
                try clear r6
                try clear r5
                try clear r4
                try clear r3
                try clear r2
                try clear r1
                try clear d7
                try clear d6
                try clear d5
                try clear d4
                try clear d3
                try clear d2
                try clear d1
                try clear rest
                try clear v7
                try clear v6
                try clear v5
                try clear v4
                try clear v3
                try clear v2
                try clear v1
                try clear o7
                try clear o6
                try clear o5
                try clear o4
                try clear o3
                try clear o2
                try clear o1
                try clear N7
                try clear F7
                try clear m7
                rintro h8 tk8 m8 nw8 F8 N8 ⟨o1, o2, o3, o4, o5, o6, o7, v1, v2, v3, v4, v5, v6, v7, rest, d1, d2, d3, d4, d5, d6, d7, rfl, r1, r2, r3, r4, r5, r6, r7, hone, hother, rfl, rfl, core, ⟨la, ls, lu, lk, hleft, lm, lz⟩, ⟨ra, rs, ru, rk, hright, rm, rz⟩, ⟨ba, bs, bu, bk, hbelow, bm, bz⟩⟩
                refine Stop.mk ?_
                refine' execs_cutL (J := JC (fun mm v1 v2 v3 v4 v5 v6 v7 rest => mm (PySem.Str.ofString "one") = some (.ref D1) ∧ mm (PySem.Str.ofString "other") = some (.ref D2) ∧ v2 = some (.ref D3) ∧ v3 = some (.ref G) ∧ Core D1 D2 D3 G p q r b rest ∧ Has mm "left" rest (p 0 0 * p 1 1 + -(p 0 1 * p 1 0)) 9 ∧ Has mm "right" rest (q 0 0 * q 1 1 + -(q 0 1 * q 1 0)) 9 ∧ Has mm "below" rest (r 0 0 * (r 1 1 * r 2 2 + -(r 1 2 * r 2 1)) + -(r 0 1 * (r 1 0 * r 2 2 + -(r 1 2 * r 2 0))) + r 0 2 * (r 1 0 * r 2 1 + -(r 1 1 * r 2 0))) 35 ∧ Tk r b mm rest)) ?F ?h1 ?h2
                (case F => k_asm)
                case h1 =>
                  obtain ⟨mat1, mat2, mat3, rowg⟩ := core
                  obtain ⟨zvs, zc, zl, zrows⟩ := mat3
                  have zmat : MatAt 3 3 rest _ r 2 := ⟨_, _, zl, zrows⟩
                  obtain ⟨zr0, zr1, zr2, rfl, zw0, zw1, zw2⟩ := zrows.open3
                  replace zw0 : RowAt 3 rest zr0 (r 0) 2 := zw0
                  obtain ⟨zc0, za00, zs00, zu00, zk00, za01, zs01, zu01, zk01, za02, zs02, zu02, zk02, zh0, zm00, zm01, zm02, zz00, zz01, zz02⟩ := zw0.open3
                  replace zw1 : RowAt 3 rest zr1 (r 1) 2 := zw1
                  obtain ⟨zc1, za10, zs10, zu10, zk10, za11, zs11, zu11, zk11, za12, zs12, zu12, zk12, zh1, zm10, zm11, zm12, zz10, zz11, zz12⟩ := zw1.open3
                  replace zw2 : RowAt 3 rest zr2 (r 2) 2 := zw2
                  obtain ⟨zc2, za20, zs20, zu20, zk20, za21, zs21, zu21, zk21, za22, zs22, zu22, zk22, zh2, zm20, zm21, zm22, zz20, zz21, zz22⟩ := zw2.open3
                  have growg := rowg
                  obtain ⟨gc, ga0, gs0, gu0, gk0, ga1, gs1, gu1, gk1, ga2, gs2, gu2, gk2, gh, gm0, gm1, gm2, gz0, gz1, gz2⟩ := rowg.open3
                  k_steps
                  refine Stop.mk ?_
                  refine' taken34_use (aug r b) ?k1 ?k2 ?k3 ?k4 ?k5 ?kK ?kd ?ku ?g ?xl ?xh0 ?xh1 ?xh2 ?xm00 ?xm01 ?xm02 ?xm03 ?xm10 ?xm11 ?xm12 ?xm13 ?xm20 ?xm21 ?xm22 ?xm23 ?xz00 ?xz01 ?xz02 ?xz03 ?xz10 ?xz11 ?xz12 ?xz13 ?xz20 ?xz21 ?xz22 ?xz23 ?w00 ?w01 ?w02 ?w03 ?w10 ?w11 ?w12 ?w13 ?w20 ?w21 ?w22 ?w23 ?ret
                  (case k1 => k_asm)
                  (case k2 => k_asm)
                  (case k3 => k_asm)
                  (case k4 => k_asm)
                  (case k5 => k_asm)
                  (case kK => first | exact rfl | assumption)
                  (case kd => ktr_room)
                  (case ku => ktr_units)
                  (case g => assumption)
                  (case xl => k_mem)
                  (case xh0 => k_mem)
                  (case xh1 => k_mem)
                  (case xh2 => k_mem)
                  (case xm00 => k_mem)
                  (case xm01 => k_mem)
                  (case xm02 => k_mem)
                  (case xm03 => k_mem)
                  (case xm10 => k_mem)
                  (case xm11 => k_mem)
                  (case xm12 => k_mem)
                  (case xm13 => k_mem)
                  (case xm20 => k_mem)
                  (case xm21 => k_mem)
                  (case xm22 => k_mem)
                  (case xm23 => k_mem)
                  (case xz00 => with_reducible assumption)
                  (case xz01 => with_reducible assumption)
                  (case xz02 => with_reducible assumption)
                  (case xz03 => with_reducible assumption)
                  (case xz10 => with_reducible assumption)
                  (case xz11 => with_reducible assumption)
                  (case xz12 => with_reducible assumption)
                  (case xz13 => with_reducible assumption)
                  (case xz20 => with_reducible assumption)
                  (case xz21 => with_reducible assumption)
                  (case xz22 => with_reducible assumption)
                  (case xz23 => with_reducible assumption)
                  (case w00 => exact rfl)
                  (case w01 => exact rfl)
                  (case w02 => exact rfl)
                  (case w03 => exact rfl)
                  (case w10 => exact rfl)
                  (case w11 => exact rfl)
                  (case w12 => exact rfl)
                  (case w13 => exact rfl)
                  (case w20 => exact rfl)
                  (case w21 => exact rfl)
                  (case w22 => exact rfl)
                  (case w23 => exact rfl)
                  case ret =>
                  intro T8 cT8 RR8 vs8 cR8 Fd8 q8 sf8 uf8 kf8 P8 tl8 h' tk' F' Nt hT8 hR8 hF8 zq8 hrows8 apT tk8r
                  refine' rebase Nt ?m1 ?m2 ?m3 ?m4 ?m5 ?m6 ?m7 ?d1 ?d2 ?d3 ?d4 ?d5 ?d6 ?d7 ?kk8
                  (case m1 => exact List.mem_append_right _ (by k_mem))
                  (case m2 => exact List.mem_append_right _ (by k_mem))
                  (case m3 => exact List.mem_append_right _ (by k_mem))
                  (case m4 => exact List.mem_append_right _ (by k_mem))
                  (case m5 => exact List.mem_append_right _ (by k_mem))
                  (case m6 => exact List.mem_append_right _ (by k_mem))
                  (case m7 => exact List.mem_append_right _ (by k_mem))
                  (case d1 => with_reducible assumption)
                  (case d2 => with_reducible assumption)
                  (case d3 => with_reducible assumption)
                  (case d4 => with_reducible assumption)
                  (case d5 => with_reducible assumption)
                  (case d6 => with_reducible assumption)
                  (case d7 => with_reducible assumption)
                  case kk8 =>
                  intro rest8 in8 nc8 Ng8 rr1 rr2 rr3 rr4 rr5 rr6 rr7
                  have sub8 : ∀ p ∈ rest, p ∈ rest8 := fun p hp => in8 p (List.mem_append_right _ ((by kcj_all : ∀ p ∈ rest, p ∈ _) p hp)) (r1 p hp) (r2 p hp) (r3 p hp) (r4 p hp) (r5 p hp) (r6 p hp) (r7 p hp)
                  replace r1 := rr1
                  clear rr1
                  replace r2 := rr2
                  clear rr2
                  replace r3 := rr3
                  clear rr3
                  replace r4 := rr4
                  clear rr4
                  replace r5 := rr5
                  clear rr5
                  replace r6 := rr6
                  clear rr6
                  replace r7 := rr7
                  clear rr7
                  replace hT8 := nc8 _ hT8 nc_tupR
                  replace hR8 := nc8 _ hR8 nc_list
                  replace hF8 := nc8 _ hF8 nc_tup
                  replace hrows8 := hrows8.into nc8
                  clear Nt apT in8 nc8
                  k_steps
                  refine Stop.mk (MidL.intro (by k_asm) (by k_asm) ?_)
                  (refine' JC.intro ?D1 ?D2 ?D3 ?D4 ?D5 ?D6 ?D7 ?d1 ?d2 ?d3 ?d4 ?d5 ?d6 ?d7 ?z; (case D1 => k_upd); (case D2 => k_upd); (case D3 => k_upd); (case D4 => k_upd); (case D5 => k_upd); (case D6 => k_upd); (case D7 => k_upd); (case d1 => with_reducible assumption); (case d2 => with_reducible assumption); (case d3 => with_reducible assumption); (case d4 => with_reducible assumption); (case d5 => with_reducible assumption); (case d6 => with_reducible assumption); (case d7 => with_reducible assumption); skip)
                  case z => exact ⟨hone, hother, rfl, rfl, Core.sub ⟨mat1, mat2, zmat, growg⟩ (by kcj_all), ⟨_, _, _, _, hleft, by k_mem, lz⟩, ⟨_, _, _, _, hright, by k_mem, rz⟩, ⟨_, _, _, _, hbelow, by k_mem, bz⟩, _, _, _, _, _, _, _, _, _, rfl, rfl, by k_mem, by k_mem, by with_reducible assumption, by with_reducible assumption, by with_reducible assumption⟩
                case h2 =>
                  try clear bz
                  try clear bm
                  try clear hbelow
                  try clear bk
                  try clear bu
                  try clear bs
                  try clear ba
                  try clear rz
                  try clear rm
                  try clear hright
                  try clear rk
                  try clear ru
                  try clear rs
                  try clear ra
                  try clear lz
                  try clear lm
                  try clear hleft
                  try clear lk
                  try clear lu
                  try clear ls
                  try clear la
                  try clear core
                  try clear hother
                  try clear hone
                  try clear r7
                  try clear r6
                  try clear r5
                  try clear r4
                  try clear r3
                  try clear r2
                  try clear r1
                  try clear d7
                  try clear d6
                  try clear d5
                  try clear d4
                  try clear d3
                  try clear d2
                  try clear d1
                  try clear rest
                  try clear v7
                  try clear v6
                  try clear v5
                  try clear v4
                  try clear v3
                  try clear v2
                  try clear v1
                  try clear o7
                  try clear o6
                  try clear o5
                  try clear o4
                  try clear o3
                  try clear o2
                  try clear o1
                  try clear N8
                  try clear F8
                  try clear m8
                  rintro h9 tk9 m9 nw9 F9 N9 ⟨o1, o2, o3, o4, o5, o6, o7, v1, v2, v3, v4, v5, v6, v7, rest, d1, d2, d3, d4, d5, d6, d7, rfl, r1, r2, r3, r4, r5, r6, r7, hone, hother, rfl, rfl, core, ⟨la, ls, lu, lk, hleft, lm, lz⟩, ⟨ra, rs, ru, rk, hright, rm, rz⟩, ⟨ba, bs, bu, bk, hbelow, bm, bz⟩, ⟨RR, vsR, cR, Fd, qf, fs, fu, fk, PT, htaken, hfound, tRm, tFm, tz, trows, tkr⟩⟩
                  refine Stop.mk ?_
                  refine' execs_cutL (J := JC (fun mm v1 v2 v3 v4 v5 v6 v7 rest => mm (PySem.Str.ofString "one") = some (.ref D1) ∧ mm (PySem.Str.ofString "other") = some (.ref D2) ∧ v2 = some (.ref D3) ∧ v3 = some (.ref G) ∧ Core D1 D2 D3 G p q r b rest ∧ Has mm "left" rest (p 0 0 * p 1 1 + -(p 0 1 * p 1 0)) 9 ∧ Has mm "right" rest (q 0 0 * q 1 1 + -(q 0 1 * q 1 0)) 9 ∧ Has mm "below" rest (r 0 0 * (r 1 1 * r 2 2 + -(r 1 2 * r 2 1)) + -(r 0 1 * (r 1 0 * r 2 2 + -(r 1 2 * r 2 0))) + r 0 2 * (r 1 0 * r 2 1 + -(r 1 1 * r 2 0))) 35 ∧ Tk r b mm rest ∧ (r 0 0 * (r 1 1 * r 2 2 + -(r 1 2 * r 2 1)) + -(r 0 1 * (r 1 0 * r 2 2 + -(r 1 2 * r 2 0))) + r 0 2 * (r 1 0 * r 2 1 + -(r 1 1 * r 2 0))) ≠ 0)) ?F ?h1 ?h2
                  (case F => k_asm)
                  case h1 =>
                    obtain ⟨mat1, mat2, mat3, rowg⟩ := core
                    have hqf : qf = (r 0 0 * (r 1 1 * r 2 2 + -(r 1 2 * r 2 1)) + -(r 0 1 * (r 1 0 * r 2 2 + -(r 1 2 * r 2 0))) + r 0 2 * (r 1 0 * r 2 1 + -(r 1 1 * r 2 0))) := (taken3_det tkr).trans det_aug
                    obtain ⟨xvs, xc, xl, xrows⟩ := mat1
                    have xmat : MatAt 2 2 rest _ p 2 := ⟨_, _, xl, xrows⟩
                    obtain ⟨xr0, xr1, rfl, xw0, xw1⟩ := xrows.open2
                    replace xw0 : RowAt 2 rest xr0 (p 0) 2 := xw0
                    obtain ⟨xc0, xa00, xs00, xu00, xk00, xa01, xs01, xu01, xk01, xh0, xm00, xm01, xz00, xz01⟩ := xw0.open2
                    replace xw1 : RowAt 2 rest xr1 (p 1) 2 := xw1
                    obtain ⟨xc1, xa10, xs10, xu10, xk10, xa11, xs11, xu11, xk11, xh1, xm10, xm11, xz10, xz11⟩ := xw1.open2
                    k_steps
                    refine Stop.mk ?_
                    refine' taken22_use (p) ?k1 ?k2 ?k3 ?k4 ?k5 ?kK ?kd ?ku ?g ?xl ?xh0 ?xh1 ?xm00 ?xm01 ?xm10 ?xm11 ?xz00 ?xz01 ?xz10 ?xz11 ?w00 ?w01 ?w10 ?w11 ?ret
                    (case k1 => k_asm)
                    (case k2 => k_asm)
                    (case k3 => k_asm)
                    (case k4 => k_asm)
                    (case k5 => k_asm)
                    (case kK => first | exact rfl | assumption)
                    (case kd => ktr_room)
                    (case ku => ktr_units)
                    (case g => assumption)
                    (case xl => k_mem)
                    (case xh0 => k_mem)
                    (case xh1 => k_mem)
                    (case xm00 => k_mem)
                    (case xm01 => k_mem)
                    (case xm10 => k_mem)
                    (case xm11 => k_mem)
                    (case xz00 => with_reducible assumption)
                    (case xz01 => with_reducible assumption)
                    (case xz10 => with_reducible assumption)
                    (case xz11 => with_reducible assumption)
                    (case w00 => exact rfl)
                    (case w01 => exact rfl)
                    (case w10 => exact rfl)
                    (case w11 => exact rfl)
                    case ret =>
                    intro T9 cT9 RR9 vs9 cR9 Fd9 q9 sf9 uf9 kf9 P9 tl9 h' tk' F' Nt hT9 hR9 hF9 zq9 hrows9 apT tk9r
                    refine' rebase Nt ?m1 ?m2 ?m3 ?m4 ?m5 ?m6 ?m7 ?d1 ?d2 ?d3 ?d4 ?d5 ?d6 ?d7 ?kk9
                    (case m1 => exact List.mem_append_right _ (by k_mem))
                    (case m2 => exact List.mem_append_right _ (by k_mem))
                    (case m3 => exact List.mem_append_right _ (by k_mem))
                    (case m4 => exact List.mem_append_right _ (by k_mem))
                    (case m5 => exact List.mem_append_right _ (by k_mem))
                    (case m6 => exact List.mem_append_right _ (by k_mem))
                    (case m7 => exact List.mem_append_right _ (by k_mem))
                    (case d1 => with_reducible assumption)
                    (case d2 => with_reducible assumption)
                    (case d3 => with_reducible assumption)
                    (case d4 => with_reducible assumption)
                    (case d5 => with_reducible assumption)
                    (case d6 => with_reducible assumption)
                    (case d7 => with_reducible assumption)
                    case kk9 =>
                    intro rest9 in9 nc9 Ng9 rr1 rr2 rr3 rr4 rr5 rr6 rr7
                    have sub9 : ∀ p ∈ rest, p ∈ rest9 := fun p hp => in9 p (List.mem_append_right _ ((by kcj_all : ∀ p ∈ rest, p ∈ _) p hp)) (r1 p hp) (r2 p hp) (r3 p hp) (r4 p hp) (r5 p hp) (r6 p hp) (r7 p hp)
                    replace r1 := rr1
                    clear rr1
                    replace r2 := rr2
                    clear rr2
                    replace r3 := rr3
                    clear rr3
                    replace r4 := rr4
                    clear rr4
                    replace r5 := rr5
                    clear rr5
                    replace r6 := rr6
                    clear rr6
                    replace r7 := rr7
                    clear rr7
                    replace hT9 := nc9 _ hT9 nc_tupR
                    replace hR9 := nc9 _ hR9 nc_list
                    replace hF9 := nc9 _ hF9 nc_tup
                    replace hrows9 := hrows9.into nc9
                    clear Nt apT in9 nc9
                    replace tk9r : q9 = (p 0 0 * p 1 1 + -(p 0 1 * p 1 0)) := tk9r
                    k_steps
                    · replace lm := sub9 _ lm
                      refine Stop.mk ?_
                      refine' taken22_use (p) ?k1 ?k2 ?k3 ?k4 ?k5 ?kK ?kd ?ku ?g ?xl ?xh0 ?xh1 ?xm00 ?xm01 ?xm10 ?xm11 ?xz00 ?xz01 ?xz10 ?xz11 ?w00 ?w01 ?w10 ?w11 ?ret
                      (case k1 => k_asm)
                      (case k2 => k_asm)
                      (case k3 => k_asm)
                      (case k4 => k_asm)
                      (case k5 => k_asm)
                      (case kK => first | exact rfl | assumption)
                      (case kd => ktr_room)
                      (case ku => ktr_units)
                      (case g => assumption)
                      (case xl => k_mem)
                      (case xh0 => k_mem)
                      (case xh1 => k_mem)
                      (case xm00 => k_mem)
                      (case xm01 => k_mem)
                      (case xm10 => k_mem)
                      (case xm11 => k_mem)
                      (case xz00 => with_reducible assumption)
                      (case xz01 => with_reducible assumption)
                      (case xz10 => with_reducible assumption)
                      (case xz11 => with_reducible assumption)
                      (case w00 => exact rfl)
                      (case w01 => exact rfl)
                      (case w10 => exact rfl)
                      (case w11 => exact rfl)
                      case ret =>
                      intro T10 cT10 RR10 vs10 cR10 Fd10 q10 sf10 uf10 kf10 P10 tl10 h' tk' F' Nt hT10 hR10 hF10 zq10 hrows10 apT tk10r
                      refine' rebase Nt ?m1 ?m2 ?m3 ?m4 ?m5 ?m6 ?m7 ?d1 ?d2 ?d3 ?d4 ?d5 ?d6 ?d7 ?kk10
                      (case m1 => exact List.mem_append_right _ (by k_mem))
                      (case m2 => exact List.mem_append_right _ (by k_mem))
                      (case m3 => exact List.mem_append_right _ (by k_mem))
                      (case m4 => exact List.mem_append_right _ (by k_mem))
                      (case m5 => exact List.mem_append_right _ (by k_mem))
                      (case m6 => exact List.mem_append_right _ (by k_mem))
                      (case m7 => exact List.mem_append_right _ (by k_mem))
                      (case d1 => with_reducible assumption)
                      (case d2 => with_reducible assumption)
                      (case d3 => with_reducible assumption)
                      (case d4 => with_reducible assumption)
                      (case d5 => with_reducible assumption)
                      (case d6 => with_reducible assumption)
                      (case d7 => with_reducible assumption)
                      case kk10 =>
                      intro rest10 in10 nc10 Ng10 rr1 rr2 rr3 rr4 rr5 rr6 rr7
                      have sub10 : ∀ p ∈ rest9, p ∈ rest10 := fun p hp => in10 p (List.mem_append_right _ ((by kcj_all : ∀ p ∈ rest9, p ∈ _) p hp)) (r1 p hp) (r2 p hp) (r3 p hp) (r4 p hp) (r5 p hp) (r6 p hp) (r7 p hp)
                      replace r1 := rr1
                      clear rr1
                      replace r2 := rr2
                      clear rr2
                      replace r3 := rr3
                      clear rr3
                      replace r4 := rr4
                      clear rr4
                      replace r5 := rr5
                      clear rr5
                      replace r6 := rr6
                      clear rr6
                      replace r7 := rr7
                      clear rr7
                      replace hT10 := nc10 _ hT10 nc_tupR
                      replace hR10 := nc10 _ hR10 nc_list
                      replace hF10 := nc10 _ hF10 nc_tup
                      replace hrows10 := hrows10.into nc10
                      clear Nt apT in10 nc10
                      replace tk10r : q10 = (p 0 0 * p 1 1 + -(p 0 1 * p 1 0)) := tk10r
                      k_steps
                    · refine Stop.mk (MidL.intro (by k_asm) (by k_asm) ?_)
                      (refine' JC.intro ?D1 ?D2 ?D3 ?D4 ?D5 ?D6 ?D7 ?d1 ?d2 ?d3 ?d4 ?d5 ?d6 ?d7 ?z; (case D1 => k_upd); (case D2 => k_upd); (case D3 => k_upd); (case D4 => k_upd); (case D5 => k_upd); (case D6 => k_upd); (case D7 => k_upd); (case d1 => with_reducible assumption); (case d2 => with_reducible assumption); (case d3 => with_reducible assumption); (case d4 => with_reducible assumption); (case d5 => with_reducible assumption); (case d6 => with_reducible assumption); (case d7 => with_reducible assumption); skip)
                      case z => exact ⟨hone, hother, rfl, rfl, Core.sub ⟨xmat, mat2, mat3, rowg⟩ (by kcj_all), ⟨_, _, _, _, hleft, by k_mem, lz⟩, ⟨_, _, _, _, hright, by k_mem, rz⟩, ⟨_, _, _, _, hbelow, by k_mem, bz⟩, ⟨_, _, _, _, _, _, _, _, _, htaken, hfound, by k_mem, by k_mem, tz, trows.sub (by kcj_all) (fun _ _ _ _ => rfl) (fun _ _ => Nat.le_refl _), tkr⟩, by assumption⟩
                  case h2 =>
                    try clear tkr
                    try clear trows
                    try clear tz
                    try clear tFm
                    try clear tRm
                    try clear hfound
                    try clear htaken
                    try clear PT
                    try clear fk
                    try clear fu
                    try clear fs
                    try clear qf
                    try clear Fd
                    try clear cR
                    try clear vsR
                    try clear RR
                    try clear bz
                    try clear bm
                    try clear hbelow
                    try clear bk
                    try clear bu
                    try clear bs
                    try clear ba
                    try clear rz
                    try clear rm
                    try clear hright
                    try clear rk
                    try clear ru
                    try clear rs
                    try clear ra
                    try clear lz
                    try clear lm
                    try clear hleft
                    try clear lk
                    try clear lu
                    try clear ls
                    try clear la
                    try clear core
                    try clear hother
                    try clear hone
                    try clear r7
                    try clear r6
                    try clear r5
                    try clear r4
                    try clear r3
                    try clear r2
                    try clear r1
                    try clear d7
                    try clear d6
                    try clear d5
                    try clear d4
                    try clear d3
                    try clear d2
                    try clear d1
                    try clear rest
                    try clear v7
                    try clear v6
                    try clear v5
                    try clear v4
                    try clear v3
                    try clear v2
                    try clear v1
                    try clear o7
                    try clear o6
                    try clear o5
                    try clear o4
                    try clear o3
                    try clear o2
                    try clear o1
                    try clear N9
                    try clear F9
                    try clear m9
                    rintro h10 tk10 m10 nw10 F10 N10 ⟨o1, o2, o3, o4, o5, o6, o7, v1, v2, v3, v4, v5, v6, v7, rest, d1, d2, d3, d4, d5, d6, d7, rfl, r1, r2, r3, r4, r5, r6, r7, hone, hother, rfl, rfl, core, ⟨la, ls, lu, lk, hleft, lm, lz⟩, ⟨ra, rs, ru, rk, hright, rm, rz⟩, ⟨ba, bs, bu, bk, hbelow, bm, bz⟩, ⟨RR, vsR, cR, Fd, qf, fs, fu, fk, PT, htaken, hfound, tRm, tFm, tz, trows, tkr⟩, hdn⟩
                    refine Stop.mk ?_
                    refine' execs_cutL (J := JC (fun mm v1 v2 v3 v4 v5 v6 v7 rest => v2 = some (.ref D3) ∧ v3 = some (.ref G) ∧ MatAt 3 3 rest D3 r 2 ∧ RowAt 3 rest G b 2 ∧ Tk r b mm rest ∧ Slv r b v5 rest)) ?F ?h1 ?h2
                    (case F => k_asm)
                    case h1 =>
                      obtain ⟨mat1, mat2, mat3, rowg⟩ := core
                      obtain ⟨zvs, zc, zl, zrows⟩ := mat3
                      have zmat : MatAt 3 3 rest _ r 2 := ⟨_, _, zl, zrows⟩
                      obtain ⟨zr0, zr1, zr2, rfl, zw0, zw1, zw2⟩ := zrows.open3
                      replace zw0 : RowAt 3 rest zr0 (r 0) 2 := zw0
                      obtain ⟨zc0, za00, zs00, zu00, zk00, za01, zs01, zu01, zk01, za02, zs02, zu02, zk02, zh0, zm00, zm01, zm02, zz00, zz01, zz02⟩ := zw0.open3
                      replace zw1 : RowAt 3 rest zr1 (r 1) 2 := zw1
                      obtain ⟨zc1, za10, zs10, zu10, zk10, za11, zs11, zu11, zk11, za12, zs12, zu12, zk12, zh1, zm10, zm11, zm12, zz10, zz11, zz12⟩ := zw1.open3
                      replace zw2 : RowAt 3 rest zr2 (r 2) 2 := zw2
                      obtain ⟨zc2, za20, zs20, zu20, zk20, za21, zs21, zu21, zk21, za22, zs22, zu22, zk22, zh2, zm20, zm21, zm22, zz20, zz21, zz22⟩ := zw2.open3
                      have growg := rowg
                      obtain ⟨gc, ga0, gs0, gu0, gk0, ga1, gs1, gu1, gk1, ga2, gs2, gu2, gk2, gh, gm0, gm1, gm2, gz0, gz1, gz2⟩ := rowg.open3
                      k_steps
                      refine Stop.mk ?_
                      refine' solved_law (r := r) (b := b) ?k1 ?k2 ?k3 ?k4 ?k5 ?kK ?kd ?ku ?g ?xl ?xh0 ?xh1 ?xh2 ?xm00 ?xz00 ?xm01 ?xz01 ?xm02 ?xz02 ?xm10 ?xz10 ?xm11 ?xz11 ?xm12 ?xz12 ?xm20 ?xz20 ?xm21 ?xz21 ?xm22 ?xz22 ?gl ?gm0 ?gz0 ?gm1 ?gz1 ?gm2 ?gz2 ?hnz ?ret
                      (case k1 => k_asm)
                      (case k2 => k_asm)
                      (case k3 => k_asm)
                      (case k4 => k_asm)
                      (case k5 => k_asm)
                      (case kK => first | exact rfl | assumption)
                      (case kd => ktr_room)
                      (case ku => ktr_units)
                      (case g => assumption)
                      (case xl => k_mem)
                      (case xh0 => k_mem)
                      (case xh1 => k_mem)
                      (case xh2 => k_mem)
                      (case xm00 => k_mem)
                      (case xz00 => with_reducible assumption)
                      (case xm01 => k_mem)
                      (case xz01 => with_reducible assumption)
                      (case xm02 => k_mem)
                      (case xz02 => with_reducible assumption)
                      (case xm10 => k_mem)
                      (case xz10 => with_reducible assumption)
                      (case xm11 => k_mem)
                      (case xz11 => with_reducible assumption)
                      (case xm12 => k_mem)
                      (case xz12 => with_reducible assumption)
                      (case xm20 => k_mem)
                      (case xz20 => with_reducible assumption)
                      (case xm21 => k_mem)
                      (case xz21 => with_reducible assumption)
                      (case xm22 => k_mem)
                      (case xz22 => with_reducible assumption)
                      (case gl => k_mem)
                      (case gm0 => k_mem)
                      (case gz0 => with_reducible assumption)
                      (case gm1 => k_mem)
                      (case gz1 => with_reducible assumption)
                      (case gm2 => k_mem)
                      (case gz2 => with_reducible assumption)
                      (case hnz => exact hdn)
                      case ret =>
                      intro x0 x1 x2 sD sc sa0 ss0 su0 sk0 sa1 ss1 su1 sk1 sa2 ss2 su2 sk2 tl10 h' tk' hsol F' Nt hsD sm0 sz0 sm1 sz1 sm2 sz2 apT
                      refine' rebase Nt ?m1 ?m2 ?m3 ?m4 ?m5 ?m6 ?m7 ?d1 ?d2 ?d3 ?d4 ?d5 ?d6 ?d7 ?kk10
                      (case m1 => exact List.mem_append_right _ (by k_mem))
                      (case m2 => exact List.mem_append_right _ (by k_mem))
                      (case m3 => exact List.mem_append_right _ (by k_mem))
                      (case m4 => exact List.mem_append_right _ (by k_mem))
                      (case m5 => exact List.mem_append_right _ (by k_mem))
                      (case m6 => exact List.mem_append_right _ (by k_mem))
                      (case m7 => exact List.mem_append_right _ (by k_mem))
                      (case d1 => with_reducible assumption)
                      (case d2 => with_reducible assumption)
                      (case d3 => with_reducible assumption)
                      (case d4 => with_reducible assumption)
                      (case d5 => with_reducible assumption)
                      (case d6 => with_reducible assumption)
                      (case d7 => with_reducible assumption)
                      case kk10 =>
                      intro rest10 in10 nc10 Ng10 rr1 rr2 rr3 rr4 rr5 rr6 rr7
                      have sub10 : ∀ p ∈ rest, p ∈ rest10 := fun p hp => in10 p (List.mem_append_right _ ((by kcj_all : ∀ p ∈ rest, p ∈ _) p hp)) (r1 p hp) (r2 p hp) (r3 p hp) (r4 p hp) (r5 p hp) (r6 p hp) (r7 p hp)
                      replace r1 := rr1
                      clear rr1
                      replace r2 := rr2
                      clear rr2
                      replace r3 := rr3
                      clear rr3
                      replace r4 := rr4
                      clear rr4
                      replace r5 := rr5
                      clear rr5
                      replace r6 := rr6
                      clear rr6
                      replace r7 := rr7
                      clear rr7
                      replace hsD := nc10 _ hsD nc_list
                      replace sm0 := nc10 _ sm0 nc_tup
                      replace sm1 := nc10 _ sm1 nc_tup
                      replace sm2 := nc10 _ sm2 nc_tup
                      clear Nt apT in10 nc10
                      k_steps
                      refine Stop.mk (MidL.intro (by k_asm) (by k_asm) ?_)
                      (refine' JC.intro ?D1 ?D2 ?D3 ?D4 ?D5 ?D6 ?D7 ?d1 ?d2 ?d3 ?d4 ?d5 ?d6 ?d7 ?z; (case D1 => k_upd); (case D2 => k_upd); (case D3 => k_upd); (case D4 => k_upd); (case D5 => k_upd); (case D6 => k_upd); (case D7 => k_upd); (case d1 => with_reducible assumption); (case d2 => with_reducible assumption); (case d3 => with_reducible assumption); (case d4 => with_reducible assumption); (case d5 => with_reducible assumption); (case d6 => with_reducible assumption); (case d7 => with_reducible assumption); skip)
                      case z => exact ⟨rfl, rfl, zmat.sub (by kcj_all), growg.sub (by kcj_all) (fun _ _ => rfl) (Nat.le_refl _), ⟨_, _, _, _, _, _, _, _, _, htaken, hfound, by k_mem, by k_mem, tz, trows.sub (by kcj_all) (fun _ _ _ _ => rfl) (fun _ _ => Nat.le_refl _), tkr⟩, _root_.Mine.r3 x0 x1 x2, _, rfl, RowAt.of3 (by k_mem) (by k_mem) sz0 (Nat.le_refl _) rfl (by k_mem) sz1 (Nat.le_refl _) rfl (by k_mem) sz2 (Nat.le_refl _) rfl, hsol⟩
                    case h2 =>
                      try clear tkr
                      try clear trows
                      try clear tz
                      try clear tFm
                      try clear tRm
                      try clear hfound
                      try clear htaken
                      try clear PT
                      try clear fk
                      try clear fu
                      try clear fs
                      try clear qf
                      try clear Fd
                      try clear cR
                      try clear vsR
                      try clear RR
                      try clear bz
                      try clear bm
                      try clear hbelow
                      try clear bk
                      try clear bu
                      try clear bs
                      try clear ba
                      try clear rz
                      try clear rm
                      try clear hright
                      try clear rk
                      try clear ru
                      try clear rs
                      try clear ra
                      try clear lz
                      try clear lm
                      try clear hleft
                      try clear lk
                      try clear lu
                      try clear ls
                      try clear la
                      try clear core
                      try clear hother
                      try clear hone
                      try clear r7
                      try clear r6
                      try clear r5
                      try clear r4
                      try clear r3
                      try clear r2
                      try clear r1
                      try clear d7
                      try clear d6
                      try clear d5
                      try clear d4
                      try clear d3
                      try clear d2
                      try clear d1
                      try clear rest
                      try clear v7
                      try clear v6
                      try clear v5
                      try clear v4
                      try clear v3
                      try clear v2
                      try clear v1
                      try clear o7
                      try clear o6
                      try clear o5
                      try clear o4
                      try clear o3
                      try clear o2
                      try clear o1
                      try clear N10
                      try clear F10
                      try clear m10
                      rintro h11 tk11 m11 nw11 F11 N11 ⟨o1, o2, o3, o4, o5, o6, o7, v1, v2, v3, v4, v5, v6, v7, rest, d1, d2, d3, d4, d5, d6, d7, rfl, r1, r2, r3, r4, r5, r6, r7, rfl, rfl, mat3, rowg, ⟨RR, vsR, cR, Fd, qf, fs, fu, fk, PT, htaken, hfound, tRm, tFm, tz, trows, tkr⟩, ⟨x, DS, rfl, rowx, hsol⟩⟩
                      refine Stop.mk ?_
                      refine' execs_cutL (J := JC (fun mm v1 v2 v3 v4 v5 v6 v7 rest => v2 = some (.ref D3) ∧ v3 = some (.ref G) ∧ MatAt 3 3 rest D3 r 2 ∧ RowAt 3 rest G b 2 ∧ Slv r b v5 rest)) ?F ?h1 ?h2
                      (case F => k_asm)
                      case h1 =>
                        obtain ⟨e0, e1, e2⟩ := taken3_sol tkr (by rw [det_aug]; exact hdn) hsol
                        have growx := rowx
                        obtain ⟨xc, xa0, xs0, xu0, xk0, xa1, xs1, xu1, xk1, xa2, xs2, xu2, xk2, xh, xm0, xm1, xm2, xz0, xz1, xz2⟩ := rowx.open3
                        obtain ⟨tr0, tr1, tr2, rfl, tw0, tw1, tw2⟩ := trows.open3
                        replace tw0 : RowAt 4 rest tr0 (PT 0) 475 := tw0
                        obtain ⟨t0c, t0a0, t0s0, t0u0, t0k0, t0a1, t0s1, t0u1, t0k1, t0a2, t0s2, t0u2, t0k2, t0a3, t0s3, t0u3, t0k3, t0h, t0m0, t0m1, t0m2, t0m3, t0z0, t0z1, t0z2, t0z3⟩ := tw0.open4
                        replace tw1 : RowAt 4 rest tr1 (PT 1) 475 := tw1
                        obtain ⟨t1c, t1a0, t1s0, t1u0, t1k0, t1a1, t1s1, t1u1, t1k1, t1a2, t1s2, t1u2, t1k2, t1a3, t1s3, t1u3, t1k3, t1h, t1m0, t1m1, t1m2, t1m3, t1z0, t1z1, t1z2, t1z3⟩ := tw1.open4
                        replace tw2 : RowAt 4 rest tr2 (PT 2) 475 := tw2
                        obtain ⟨t2c, t2a0, t2s0, t2u0, t2k0, t2a1, t2s1, t2u1, t2k1, t2a2, t2s2, t2u2, t2k2, t2a3, t2s3, t2u3, t2k3, t2h, t2m0, t2m1, t2m2, t2m3, t2z0, t2z1, t2z2, t2z3⟩ := tw2.open4
                        k_steps
                        refine Stop.mk (MidL.intro (by k_asm) (by k_asm) ?_)
                        (refine' JC.intro ?D1 ?D2 ?D3 ?D4 ?D5 ?D6 ?D7 ?d1 ?d2 ?d3 ?d4 ?d5 ?d6 ?d7 ?z; (case D1 => k_upd); (case D2 => k_upd); (case D3 => k_upd); (case D4 => k_upd); (case D5 => k_upd); (case D6 => k_upd); (case D7 => k_upd); (case d1 => with_reducible assumption); (case d2 => with_reducible assumption); (case d3 => with_reducible assumption); (case d4 => with_reducible assumption); (case d5 => with_reducible assumption); (case d6 => with_reducible assumption); (case d7 => with_reducible assumption); skip)
                        case z => exact ⟨rfl, rfl, mat3.sub (by kcj_all), rowg.sub (by kcj_all) (fun _ _ => rfl) (Nat.le_refl _), _, _, rfl, growx.sub (by kcj_all) (fun _ _ => rfl) (Nat.le_refl _), hsol⟩
                      case h2 =>
                        try clear hsol
                        try clear rowx
                        try clear DS
                        try clear x
                        try clear tkr
                        try clear trows
                        try clear tz
                        try clear tFm
                        try clear tRm
                        try clear hfound
                        try clear htaken
                        try clear PT
                        try clear fk
                        try clear fu
                        try clear fs
                        try clear qf
                        try clear Fd
                        try clear cR
                        try clear vsR
                        try clear RR
                        try clear rowg
                        try clear mat3
                        try clear r7
                        try clear r6
                        try clear r5
                        try clear r4
                        try clear r3
                        try clear r2
                        try clear r1
                        try clear d7
                        try clear d6
                        try clear d5
                        try clear d4
                        try clear d3
                        try clear d2
                        try clear d1
                        try clear rest
                        try clear v7
                        try clear v6
                        try clear v5
                        try clear v4
                        try clear v3
                        try clear v2
                        try clear v1
                        try clear o7
                        try clear o6
                        try clear o5
                        try clear o4
                        try clear o3
                        try clear o2
                        try clear o1
                        try clear N11
                        try clear F11
                        try clear m11
                        rintro h12 tk12 m12 nw12 F12 N12 ⟨o1, o2, o3, o4, o5, o6, o7, v1, v2, v3, v4, v5, v6, v7, rest, d1, d2, d3, d4, d5, d6, d7, rfl, r1, r2, r3, r4, r5, r6, r7, rfl, rfl, mat3, rowg, ⟨x, DS, rfl, rowx, hsol⟩⟩
                        refine Stop.mk ?_
                        refine' execs_cutL (J := JC (fun mm v1 v2 v3 v4 v5 v6 v7 rest => v2 = some (.ref D3) ∧ v3 = some (.ref G) ∧ MatAt 3 3 rest D3 r 2 ∧ RowAt 3 rest G b 2 ∧ (∃ D t, v5 = some (.ref D) ∧ RowAt 3 rest D x 70 ∧ v6 = some (.int (((x 0).den : Int) * ((x 1).den : Int) * ((x 2).den : Int)) t)))) ?F ?h1 ?h2
                        (case F => k_asm)
                        case h1 =>
                          have growx := rowx
                          obtain ⟨xc, xa0, xs0, xu0, xk0, xa1, xs1, xu1, xk1, xa2, xs2, xu2, xk2, xh, xm0, xm1, xm2, xz0, xz1, xz2⟩ := rowx.open3
                          have xf0 : Fit ((x 0).den : Int) := xz0.fitD (by decide)
                          have xf1 : Fit ((x 1).den : Int) := xz1.fitD (by decide)
                          have xf2 : Fit ((x 2).den : Int) := xz2.fitD (by decide)
                          have xf3 : Fit (((x 0).den : Int) * ((x 1).den : Int)) := Fit.mul2 (den_le xz0) (den_le xz1)
                          k_steps
                          refine Stop.mk (MidL.intro (by k_asm) (by k_asm) ?_)
                          (refine' JC.intro ?D1 ?D2 ?D3 ?D4 ?D5 ?D6 ?D7 ?d1 ?d2 ?d3 ?d4 ?d5 ?d6 ?d7 ?z; (case D1 => k_upd); (case D2 => k_upd); (case D3 => k_upd); (case D4 => k_upd); (case D5 => k_upd); (case D6 => k_upd); (case D7 => k_upd); (case d1 => with_reducible assumption); (case d2 => with_reducible assumption); (case d3 => with_reducible assumption); (case d4 => with_reducible assumption); (case d5 => with_reducible assumption); (case d6 => with_reducible assumption); (case d7 => with_reducible assumption); skip)
                          case z => exact ⟨rfl, rfl, mat3.sub (by kcj_all), rowg.sub (by kcj_all) (fun _ _ => rfl) (Nat.le_refl _), _, _, rfl, growx.sub (by kcj_all) (fun _ _ => rfl) (Nat.le_refl _), rfl⟩
                        case h2 =>
                          try clear rowx
                          try clear DS
                          try clear rowg
                          try clear mat3
                          try clear r7
                          try clear r6
                          try clear r5
                          try clear r4
                          try clear r3
                          try clear r2
                          try clear r1
                          try clear d7
                          try clear d6
                          try clear d5
                          try clear d4
                          try clear d3
                          try clear d2
                          try clear d1
                          try clear rest
                          try clear v7
                          try clear v6
                          try clear v5
                          try clear v4
                          try clear v3
                          try clear v2
                          try clear v1
                          try clear o7
                          try clear o6
                          try clear o5
                          try clear o4
                          try clear o3
                          try clear o2
                          try clear o1
                          try clear N12
                          try clear F12
                          try clear m12
                          rintro h13 tk13 m13 nw13 F13 N13 ⟨o1, o2, o3, o4, o5, o6, o7, v1, v2, v3, v4, v5, v6, v7, rest, d1, d2, d3, d4, d5, d6, d7, rfl, r1, r2, r3, r4, r5, r6, r7, rfl, rfl, mat3, rowg, ⟨DS, tM, rfl, rowx, rfl⟩⟩
                          refine Stop.mk (wpAny_execs_cons ?_)
                          k_steps
                          refine Stop.mk ?_
                          refine' iter_st (J := (fun I v mm nw => LCg.Off1 I nw ∧ JC (fun mm v1 v2 v3 v4 v5 v6 v7 rest => v2 = some (.ref D3) ∧ v3 = some (.ref G) ∧ MatAt 3 3 rest D3 r 2 ∧ RowAt 3 rest G b 2 ∧ (∃ D t, v5 = some (.ref D) ∧ RowAt 3 rest D x 70 ∧ v6 = some (.int (((x 0).den : Int) * ((x 1).den : Int) * ((x 2).den : Int)) t))) s1.heap.objs.size mm nw)) (T := fun mm nw => JC (fun mm v1 v2 v3 v4 v5 v6 v7 rest => v2 = some (.ref D3) ∧ v3 = some (.ref G) ∧ MatAt 3 3 rest D3 r 2 ∧ RowAt 3 rest G b 2 ∧ (∃ D t, v5 = some (.ref D) ∧ RowAt 3 rest D x 70 ∧ v6 = some (.int (((x 0).den : Int) * ((x 1).den : Int) * ((x 2).den : Int)) t))) s1.heap.objs.size mm nw) rfl ?hr ?hab ?F ?N ?hE ?st ?mono ?h2 ?h3x1
                          (case hr => assumption)
                          (case hab => decide)
                          (case F => k_asm)
                          (case N => k_asm)
                          (case hE => first | passes_own | with_unfolding_all passes_own)
                          case st =>
                            (refine' JC.intro ?D1 ?D2 ?D3 ?D4 ?D5 ?D6 ?D7 ?d1 ?d2 ?d3 ?d4 ?d5 ?d6 ?d7 ?z; (case D1 => k_upd); (case D2 => k_upd); (case D3 => k_upd); (case D4 => k_upd); (case D5 => k_upd); (case D6 => k_upd); (case D7 => k_upd); (case d1 => with_reducible assumption); (case d2 => with_reducible assumption); (case d3 => with_reducible assumption); (case d4 => with_reducible assumption); (case d5 => with_reducible assumption); (case d6 => with_reducible assumption); (case d7 => with_reducible assumption); skip)
                            case z => exact ⟨rfl, rfl, mat3.sub (by kcj_all), rowg.sub (by kcj_all) (fun _ _ => rfl) (Nat.le_refl _), _, _, rfl, rowx.sub (by kcj_all) (fun _ _ => rfl) (Nat.le_refl _), rfl⟩
                          case mono => exact fun I nw ho hh => ⟨ho, hh⟩
                          case h2 =>
                            try clear rowx
                            try clear tM
                            try clear DS
                            try clear rowg
                            try clear mat3
                            try clear r7
                            try clear r6
                            try clear r5
                            try clear r4
                            try clear r3
                            try clear r2
                            try clear r1
                            try clear d7
                            try clear d6
                            try clear d5
                            try clear d4
                            try clear d3
                            try clear d2
                            try clear d1
                            try clear rest
                            try clear v7
                            try clear v6
                            try clear v5
                            try clear v4
                            try clear v3
                            try clear v2
                            try clear v1
                            try clear o7
                            try clear o6
                            try clear o5
                            try clear o4
                            try clear o3
                            try clear o2
                            try clear o1
                            try clear N13
                            try clear F13
                            try clear m13
                            rintro I1 k0 m0 nw0 g1 g2 ⟨oI, o1, o2, o3, o4, o5, o6, o7, v1, v2, v3, v4, v5, v6, v7, rest, d1, d2, d3, d4, d5, d6, d7, rfl, r1, r2, r3, r4, r5, r6, r7, rfl, rfl, mat3, rowg, ⟨DS, tM, rfl, rowx, rfl⟩⟩ it1 t1 h1 tk1 F1 N1
                            obtain ⟨w1, w2, w3, w4, w5, w6, w7, w8, w9, w10, w11, w12, w13, w14, w15⟩ := off7_of oI
                            clear oI
                            have hK : k0.toNat < 3 := by omega
                            have gk63 : k0 < 2 ^ 63 := by omega
                            obtain ⟨zvs, zc0, zl, zrows⟩ := id mat3
                            obtain ⟨zr, zv, zrow⟩ := zrows.2 k0.toNat hK
                            replace zrow : RowAt 3 rest zr (r k0.toNat) 2 := zrow
                            obtain ⟨zc, za0, zs0, zu0, zk0, za1, zs1, zu1, zk1, za2, zs2, zu2, zk2, zh, zm0, zm1, zm2, zz0, zz1, zz2⟩ := zrow.open3
                            obtain ⟨gc, ga0, gs0, gu0, gk0, ga1, gs1, gu1, gk1, ga2, gs2, gu2, gk2, gx, gsx, gux, gkx, gh, gm0, gm1, gm2, gz0, gz1, gz2, gcol, gmx, gzx⟩ := RowAt.openc3 (v := k0.toNat) rowg hK
                            obtain ⟨xc, xa0, xs0, xu0, xk0, xa1, xs1, xu1, xk1, xa2, xs2, xu2, xk2, xx, xsx, xux, xkx, xh, xm0, xm1, xm2, xz0, xz1, xz2, xcol, xmx, xzx⟩ := RowAt.openc3 (v := k0.toNat) rowx hK
                            have mN : ((((x 0).den : Int) * ((x 1).den : Int) * ((x 2).den : Int))).natAbs ≤ 2 ^ 210 := nb_mul (e := 140) (f := 70) (nb_mul (e := 70) (f := 70) (den_le xz0) (den_le xz1)) (den_le xz2)
                            have mF : Fit (((x 0).den : Int) * ((x 1).den : Int) * ((x 2).den : Int)) := nb_fit mN (by decide)
                            have zd0 : Fit ((r k0.toNat 0).den : Int) := zz0.fitD (by decide)
                            have zn0 : Fit (r k0.toNat 0).num := zz0.fitN (by decide)
                            have zx0 : ((r k0.toNat 0).den : Int) ≠ 0 := den_ne
                            have zqN0 : ((6 : Int).fdiv ((r k0.toNat 0).den : Int)).natAbs ≤ 2 ^ 3 := nb_fdiv (by decide) (Int.natCast_nonneg _)
                            have zqF0 : Fit ((6 : Int).fdiv ((r k0.toNat 0).den : Int)) := nb_fit zqN0 (by decide)
                            have zwN0 : ((r k0.toNat 0).num * (6 : Int).fdiv ((r k0.toNat 0).den : Int)).natAbs ≤ 2 ^ 5 := nb_mul zz0.1 zqN0
                            have zwF0 : Fit ((r k0.toNat 0).num * (6 : Int).fdiv ((r k0.toNat 0).den : Int)) := nb_fit zwN0 (by decide)
                            have xn0 : Fit (x 0).num := xz0.fitN (by decide)
                            have xd0 : Fit ((x 0).den : Int) := xz0.fitD (by decide)
                            have xx0 : ((x 0).den : Int) ≠ 0 := den_ne
                            have xqN0 : (((((x 0).den : Int) * ((x 1).den : Int) * ((x 2).den : Int))).fdiv ((x 0).den : Int)).natAbs ≤ 2 ^ 210 := nb_fdiv mN (Int.natCast_nonneg _)
                            have xqF0 : Fit (((((x 0).den : Int) * ((x 1).den : Int) * ((x 2).den : Int))).fdiv ((x 0).den : Int)) := nb_fit xqN0 (by decide)
                            have xwN0 : ((r k0.toNat 0).num * (6 : Int).fdiv ((r k0.toNat 0).den : Int) * (x 0).num).natAbs ≤ 2 ^ 75 := nb_mul zwN0 xz0.1
                            have xwF0 : Fit ((r k0.toNat 0).num * (6 : Int).fdiv ((r k0.toNat 0).den : Int) * (x 0).num) := nb_fit xwN0 (by decide)
                            have zd1 : Fit ((r k0.toNat 1).den : Int) := zz1.fitD (by decide)
                            have zn1 : Fit (r k0.toNat 1).num := zz1.fitN (by decide)
                            have zx1 : ((r k0.toNat 1).den : Int) ≠ 0 := den_ne
                            have zqN1 : ((6 : Int).fdiv ((r k0.toNat 1).den : Int)).natAbs ≤ 2 ^ 3 := nb_fdiv (by decide) (Int.natCast_nonneg _)
                            have zqF1 : Fit ((6 : Int).fdiv ((r k0.toNat 1).den : Int)) := nb_fit zqN1 (by decide)
                            have zwN1 : ((r k0.toNat 1).num * (6 : Int).fdiv ((r k0.toNat 1).den : Int)).natAbs ≤ 2 ^ 5 := nb_mul zz1.1 zqN1
                            have zwF1 : Fit ((r k0.toNat 1).num * (6 : Int).fdiv ((r k0.toNat 1).den : Int)) := nb_fit zwN1 (by decide)
                            have xn1 : Fit (x 1).num := xz1.fitN (by decide)
                            have xd1 : Fit ((x 1).den : Int) := xz1.fitD (by decide)
                            have xx1 : ((x 1).den : Int) ≠ 0 := den_ne
                            have xqN1 : (((((x 0).den : Int) * ((x 1).den : Int) * ((x 2).den : Int))).fdiv ((x 1).den : Int)).natAbs ≤ 2 ^ 210 := nb_fdiv mN (Int.natCast_nonneg _)
                            have xqF1 : Fit (((((x 0).den : Int) * ((x 1).den : Int) * ((x 2).den : Int))).fdiv ((x 1).den : Int)) := nb_fit xqN1 (by decide)
                            have xwN1 : ((r k0.toNat 1).num * (6 : Int).fdiv ((r k0.toNat 1).den : Int) * (x 1).num).natAbs ≤ 2 ^ 75 := nb_mul zwN1 xz1.1
                            have xwF1 : Fit ((r k0.toNat 1).num * (6 : Int).fdiv ((r k0.toNat 1).den : Int) * (x 1).num) := nb_fit xwN1 (by decide)
                            have zd2 : Fit ((r k0.toNat 2).den : Int) := zz2.fitD (by decide)
                            have zn2 : Fit (r k0.toNat 2).num := zz2.fitN (by decide)
                            have zx2 : ((r k0.toNat 2).den : Int) ≠ 0 := den_ne
                            have zqN2 : ((6 : Int).fdiv ((r k0.toNat 2).den : Int)).natAbs ≤ 2 ^ 3 := nb_fdiv (by decide) (Int.natCast_nonneg _)
                            have zqF2 : Fit ((6 : Int).fdiv ((r k0.toNat 2).den : Int)) := nb_fit zqN2 (by decide)
                            have zwN2 : ((r k0.toNat 2).num * (6 : Int).fdiv ((r k0.toNat 2).den : Int)).natAbs ≤ 2 ^ 5 := nb_mul zz2.1 zqN2
                            have zwF2 : Fit ((r k0.toNat 2).num * (6 : Int).fdiv ((r k0.toNat 2).den : Int)) := nb_fit zwN2 (by decide)
                            have xn2 : Fit (x 2).num := xz2.fitN (by decide)
                            have xd2 : Fit ((x 2).den : Int) := xz2.fitD (by decide)
                            have xx2 : ((x 2).den : Int) ≠ 0 := den_ne
                            have xqN2 : (((((x 0).den : Int) * ((x 1).den : Int) * ((x 2).den : Int))).fdiv ((x 2).den : Int)).natAbs ≤ 2 ^ 210 := nb_fdiv mN (Int.natCast_nonneg _)
                            have xqF2 : Fit (((((x 0).den : Int) * ((x 1).den : Int) * ((x 2).den : Int))).fdiv ((x 2).den : Int)) := nb_fit xqN2 (by decide)
                            have xwN2 : ((r k0.toNat 2).num * (6 : Int).fdiv ((r k0.toNat 2).den : Int) * (x 2).num).natAbs ≤ 2 ^ 75 := nb_mul zwN2 xz2.1
                            have xwF2 : Fit ((r k0.toNat 2).num * (6 : Int).fdiv ((r k0.toNat 2).den : Int) * (x 2).num) := nb_fit xwN2 (by decide)
                            have gn : Fit (b k0.toNat).num := gzx.fitN (by decide)
                            have f6 : Fit (6 : Int) := le_fit (e := 3) (by decide) (by decide)
                            have g6N : ((b k0.toNat).num * 6).natAbs ≤ 2 ^ 5 := nb_mul gzx.1 (f := 3) (by decide)
                            have g6F : Fit ((b k0.toNat).num * 6) := nb_fit g6N (by decide)
                            have heq := heq_sum (whole_law (most := (((x 0).den : Int) * ((x 1).den : Int) * ((x 2).den : Int))) (ent3 _ 0 hK (by decide)).2 (ent3 _ 1 hK (by decide)).2 (ent3 _ 2 hK (by decide)).2 (bden _ hK) (hsol _ hK : r k0.toNat 0 * x 0 + r k0.toNat 1 * x 1 + r k0.toNat 2 * x 2 = b k0.toNat) rfl)
                            have rs := rnd_sz xzx
                            have gp1 := gap_le (p := x k0.toNat)
                            have gp2 := gap_ge (p := x k0.toNat)
                            k_steps
                            refine Stop.mk (wpAny_execs_cons ?_)
                            k_steps
                            refine Stop.mk (wpAny_execs_cons ?_)
                            k_steps
                            refine Stop.mk (wpAny_execs_cons ?_)
                            k_steps
                            refine Stop.mk ?_
                            refine' unrEnd_st (T := fun mm nw => JC (fun mm v1 v2 v3 v4 v5 v6 v7 rest => v2 = some (.ref D3) ∧ v3 = some (.ref G) ∧ MatAt 3 3 rest D3 r 2 ∧ RowAt 3 rest G b 2 ∧ (∃ D t, v5 = some (.ref D) ∧ RowAt 3 rest D x 70 ∧ v6 = some (.int (((x 0).den : Int) * ((x 1).den : Int) * ((x 2).den : Int)) t))) s1.heap.objs.size mm nw) ?F ?N ?d0 ?st ?mono ?off
                            (case F => k_asm)
                            (case N => k_asm)
                            (case d0 => k_upd)
                            case st =>
                              (refine' JC.intro ?D1 ?D2 ?D3 ?D4 ?D5 ?D6 ?D7 ?d1 ?d2 ?d3 ?d4 ?d5 ?d6 ?d7 ?z; (case D1 => k_upd); (case D2 => k_upd); (case D3 => k_upd); (case D4 => k_upd); (case D5 => k_upd); (case D6 => k_upd); (case D7 => k_upd); (case d1 => with_reducible assumption); (case d2 => with_reducible assumption); (case d3 => with_reducible assumption); (case d4 => with_reducible assumption); (case d5 => with_reducible assumption); (case d6 => with_reducible assumption); (case d7 => with_reducible assumption); skip)
                              case z => exact ⟨rfl, rfl, mat3.sub (by kcj_all), rowg.sub (by kcj_all) (fun _ _ => rfl) (Nat.le_refl _), _, _, rfl, rowx.sub (by kcj_all) (fun _ _ => rfl) (Nat.le_refl _), rfl⟩
                            case mono => exact fun nw ho hh => ⟨ho, hh⟩
                            case off => exact fun _ _ hh => hh.1
                          case h3x1 =>
                            try clear rowx
                            try clear tM
                            try clear DS
                            try clear rowg
                            try clear mat3
                            try clear r7
                            try clear r6
                            try clear r5
                            try clear r4
                            try clear r3
                            try clear r2
                            try clear r1
                            try clear d7
                            try clear d6
                            try clear d5
                            try clear d4
                            try clear d3
                            try clear d2
                            try clear d1
                            try clear rest
                            try clear v7
                            try clear v6
                            try clear v5
                            try clear v4
                            try clear v3
                            try clear v2
                            try clear v1
                            try clear o7
                            try clear o6
                            try clear o5
                            try clear o4
                            try clear o3
                            try clear o2
                            try clear o1
                            try clear N13
                            try clear F13
                            try clear m13
                            rintro I1 m0 nw0 ⟨oI, o1, o2, o3, o4, o5, o6, o7, v1, v2, v3, v4, v5, v6, v7, rest, d1, d2, d3, d4, d5, d6, d7, rfl, r1, r2, r3, r4, r5, r6, r7, rfl, rfl, mat3, rowg, ⟨DS, tM, rfl, rowx, rfl⟩⟩
                            refine TurnsC.zero (fun h2 tk2 F2 N2 => ?_)
                            k_steps
  )
end Mine
end
set_option Elab.async false
set_option maxRecDepth 100000 in
set_option maxHeartbeats 8000000 in
theorem PySem.Challenge.cw_sz0002_01_holds : PySem.Challenge.rw_sz0002_01.Holds := by
  exact Mine.law_holds
