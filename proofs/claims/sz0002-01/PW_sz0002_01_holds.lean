import PyProof.Rows.All
import Wide.All
import OpenK.AllK
import Wide.FinOn
import Lean
import PySem.Challenge.RW_sz0002_01
section
open PySem PySem.W PyProof.Rows
set_option Elab.async false
set_option maxRecDepth 100000
set_option maxHeartbeats 8000000
set_option linter.unusedVariables false
-- the head, taken without its proof: a lemma of our own stands where the kit asks for its own (same name, our namespace), so the written heap, the view and the goal come out alone; the head itself is proved once, at the end (block 35)
namespace Mine.Hd
abbrev Tag (F : False) (T p : Prop) : Prop := p
def captured {T p : Prop} (_ : (F : False) → Tag F T p) : Prop := T
end Mine.Hd
namespace Mine.Hd.PySem.W
theorem holds_open {F : False} {r : OpenRow} {q : Program} {loose : List Str} {Xt : Shared → Bool} {XP : (Str → Option Value) → Heap → Prop} {α : Type} {Yf : Shared → α} {Ya : World → α} {YP : World → Heap → Prop} {d : DefRec} {kwd : List (Str × PySem.Expr)} {N : Nat}
    (left : ∀ _ : World, true = true) (hY : ∀ w s, Yf s = Ya w → YP w s.heap) (hYk : ∀ w h h', YP w h → (∀ b o, h.get? b = some o → h'.get? b = some o) → YP w h')
    (hX : ∀ s, Xt s = true → XP (s.heap.nsMap mainGlobals) s.heap) (hXk : ∀ mg h h', XP mg h → (∀ b o, h.get? b = some o → h'.get? b = some o) → XP mg h')
    (hdef : defOf q r.name = some (d, kwd)) (hp : r.prog.theDef r.name = some (d.params, d.body, d.scope)) (hk : kwWritten? d.params.kwonlyargs d.params.kw_defaults = some kwd) (hRf : ∀ s, Xt s = true → RecFacts r.records s.heap) (hwr : (!r.writes || r.records.isEmpty) = true)
    (k1 : r.wellSaid = true) (ok : (chainsOk q && opensWell r.prog && (frees r.toRowW && r.within.isEmpty)) = true) (hb : r.prog.bare) (hw : True)
    (call : True) : Tag F (WalkO q loose XP YP r.toRowW d kwd fun f vs => PySem.call f vs) r.Holds := F.elim
theorem holds_openC {F : False} {r : OpenRowC} {q : Program} {loose : List Str} {Xt : Shared → Bool} {XP : (Str → Option Value) → Heap → Prop} {α : Type} {Yf : Shared → α} {Ya : World → α} {YP : World → Heap → Prop} {d : DefRec} {kwd : List (Str × PySem.Expr)} {N : Nat}
    (left : ∀ _ : World, true = true) (hY : ∀ w s, Yf s = Ya w → YP w s.heap) (hYk : ∀ w h h', YP w h → (∀ b o, h.get? b = some o → h'.get? b = some o) → YP w h')
    (hX : ∀ s, Xt s = true → XP (s.heap.nsMap mainGlobals) s.heap) (hXk : ∀ mg h h', XP mg h → (∀ b o, h.get? b = some o → h'.get? b = some o) → XP mg h')
    (hdef : defOf q r.name = some (d, kwd)) (hp : r.prog.theDef r.name = some (d.params, d.body, d.scope)) (hk : kwWritten? d.params.kwonlyargs d.params.kw_defaults = some kwd) (hRf : ∀ s, Xt s = true → RecFacts r.records s.heap) (hwr : (!r.writes || r.records.isEmpty) = true)
    (k1 : r.wellSaid = true) (ok : (chainsOk q && opensWell r.prog && (frees r.toRowW && r.within.isEmpty)) = true) (hb : r.prog.bare) (hw : True)
    (call : True) : Tag F (WalkO q loose XP YP r.toRowW d kwd fun f vs => callC f r.kw r.drain r.hand r.exc vs) r.Holds := F.elim
end Mine.Hd.PySem.W
namespace Mine.Hd
def hd : Prop := by
  refine' captured (p := PySem.Challenge.rw_sz0002_01.row.Holds) (T := _) (fun F => ?_)
  rotate_left
  w_on

  k_head
  case hw => trivial
  case hc => trivial

end Mine.Hd
end
local macro_rules | `(tactic| walk_at $s:str) => `(tactic| k_extra $s)
local macro_rules | `(tactic| k_mem) => `(tactic| k_extra "k_mem")
local macro_rules | `(tactic| k_all) => `(tactic| k_extra "k_all")
local macro_rules | `(tactic| k_upd) => `(tactic| k_extra "k_upd")
local macro_rules | `(tactic| k_ne) => `(tactic| k_extra "k_ne")
local macro_rules | `(tactic| kcj_all) => `(tactic| k_extra "kcj_all")
local macro_rules | `(tactic| wrow_close) => `(tactic| k_extra "wrow_close")
local macro_rules | `(tactic| kc_close) => `(tactic| k_extra "kc_close")
local macro_rules | `(tactic| mul_fits) => `(tactic| k_extra "mul_fits")
local macro_rules | `(tactic| k_lt $h:ident) => `(tactic| (obtain lq := allLt_of $h; clear $h))
section
open PySem PySem.W PyProof.Rows PySem.Calls PySem.Spec
set_option Elab.async false
set_option maxRecDepth 100000
set_option maxHeartbeats 8000000
namespace Mine
noncomputable abbrev PR : Program := PySem.Challenge.rw_sz0002_01.row.prog
noncomputable abbrev LO : List Str := looseW Hd.hd.view_1 [Str.ofString "GREATEST"]
abbrev tup2 (n : Int) (t1 : Tok) (d : Int) (t2 : Tok) (c : Nat) : Obj := { cls := .type "tuple", data := .seq #[.int n t1, .int d t2] c }

def Does (w : World) (mean : ExcName → Option Value) (mg mb : Str → Option Value) (k : Nat) (f : Addr) (news : List (Addr × Obj)) (vs : List Value) (Post : List (Addr × Obj) → Value → Prop) : Prop :=
  ∀ (dp un : Nat) (gd : Option (List Code)) (cn : Str) (cs : Scope) (a : Addr) (ccd : Value) (cl : List (Str × Addr)) (outer : List Env) (A₀ : Around) (base h₀ : Heap) (L : Addr) (m : Str → Option Value) (s : Shared)
    (Q E : Value → Shared → Prop),
    Below A₀ base outer h₀ → Fr h₀ L s.heap m → (Hd.hd.heap_1 w.params).In h₀ → News h₀ L s.heap news → Top Hd.hd.view_1 LO mean mg mb h₀ → cs.kind = .function → dp + k < recursionLimit → un + 8 * k < cLine →
    (∀ r news' h' tk', Fr h₀ L h' m → News h₀ L h' news' → Post news' r → Q r { s with heap := h', toks := tk' }) →
    wpAny (model PR w) (ktrTop dp un gd cn cs L a ccd cl outer) (call (.ref f) vs) Q E s
def RatPost (n d : Int) (news news' : List (Addr × Obj)) (r : Value) : Prop := ∃ D u1 u2 c', r = .ref D ∧ news' = (D, tup2 n u1 d u2 c') :: news ∧ AllLt D news
theorem ratPost_end {n d n' d' : Int} {u1 u2 c : Nat} {D : Addr} {news : List (Addr × Obj)} (e1 : n' = n) (e2 : d' = d) (h : AllLt D news) : RatPost n d news ((D, tup2 n' u1 d' u2 c) :: news) (.ref D) := by
  subst e1; subst e2; exact ⟨_, _, _, _, rfl, rfl, h⟩
def IntPost (v : Int) (news news' : List (Addr × Obj)) (r : Value) : Prop := ∃ u, r = .int v u ∧ news' = news
theorem intPost_end {v v' : Int} {u : Nat} {news : List (Addr × Obj)} (e : v' = v) : IntPost v news news (.int v' u) := by
  subst e; exact ⟨_, rfl, rfl⟩
theorem fill : Hd.hd.heap_1 = Hd.hd.heap_1 ∧ PySem.Challenge.rw_sz0002_01 = PySem.Challenge.rw_sz0002_01 := by w_top off; k_fill; exact ⟨rfl, rfl⟩
end Mine
end
section
namespace Mine
def Fit (x : Int) : Prop := x.natAbs < 2 ^ 2600
def Sz (e : Nat) (q : Rat) : Prop := q.num.natAbs ≤ 2 ^ e ∧ q.den ≤ 2 ^ e
theorem pow_le {a b : Nat} (h : a ≤ b) : (2:Nat) ^ a ≤ 2 ^ b := Nat.pow_le_pow_right (by decide) h
theorem Sz.mono {e f : Nat} {q : Rat} (h : Sz e q) (hf : e ≤ f) : Sz f q := ⟨Nat.le_trans h.1 (pow_le hf), Nat.le_trans h.2 (pow_le hf)⟩
theorem le_fit {x : Int} {e : Nat} (h : x.natAbs ≤ 2 ^ e) (he : e ≤ 2500) : Fit x := by
  have h1 : (2:Nat) ^ e ≤ 2 ^ 2500 := pow_le he
  have h2 : (2:Nat) ^ 2500 < 2 ^ 2600 := Nat.pow_lt_pow_right (by decide) (by decide)
  unfold Fit
  exact Nat.lt_of_le_of_lt (Nat.le_trans h h1) h2
theorem Sz.fitN {e : Nat} {q : Rat} (h : Sz e q) (he : e ≤ 2500) : Fit q.num := le_fit h.1 he
theorem Sz.fitD {e : Nat} {q : Rat} (h : Sz e q) (he : e ≤ 2500) : Fit (q.den : Int) := le_fit (by rw [Int.natAbs_natCast]; exact h.2) he
theorem mul_le2 {a b e f : Nat} (h : a ≤ 2 ^ e) (g : b ≤ 2 ^ f) : a * b ≤ 2 ^ (e + f) := by
  rw [Nat.pow_add]; exact Nat.mul_le_mul h g
theorem add_le2 {a b e : Nat} (h : a ≤ 2 ^ e) (g : b ≤ 2 ^ e) : a + b ≤ 2 ^ (e + 1) := by
  rw [Nat.pow_succ]; omega
theorem Sz.divInt {t b : Int} {e : Nat} (hb : b ≠ 0) (h1 : t.natAbs ≤ 2 ^ e) (h2 : b.natAbs ≤ 2 ^ e) : Sz e (Rat.divInt t b) := by
  constructor
  · rw [Rat.num_divInt]
    refine Nat.le_trans (Int.natAbs_ediv_le_natAbs _ _) ?_
    rw [Int.natAbs_mul, Int.natAbs_sign_of_ne_zero hb, Nat.one_mul]
    exact h1
  · rw [Rat.den_divInt, if_neg hb]
    exact Nat.le_trans (Nat.div_le_self _ _) h2
theorem den_ne {q : Rat} : (q.den : Int) ≠ 0 := by have := q.den_nz; omega
-- the four operations as the program says them
theorem sum_eq (p q : Rat) : Rat.divInt (p.num * q.den + q.num * p.den) (p.den * q.den) = p + q := by
  rw [Rat.add_def', ← Rat.divInt_ofNat, Int.natCast_mul]
theorem diff_eq (p q : Rat) : Rat.divInt (p.num * q.den - q.num * p.den) (p.den * q.den) = p - q := by
  rw [Rat.sub_def', ← Rat.divInt_ofNat, Int.natCast_mul]
theorem prod_eq (p q : Rat) : Rat.divInt (p.num * q.num) (p.den * q.den) = p * q := by
  rw [Rat.mul_def', ← Rat.divInt_ofNat, Int.natCast_mul]
theorem quot_eq (p q : Rat) : Rat.divInt (p.num * q.den) (p.den * q.num) = p / q := by
  have h1 : Rat.divInt p.num p.den = p := Rat.num_divInt_den p
  rw [Rat.div_def, Rat.inv_def, ← Rat.divInt_mul_divInt, h1]
theorem num_ne {q : Rat} (h : q ≠ 0) : q.num ≠ 0 := fun e => h (Rat.num_eq_zero.mp e)
section
variable {e f : Nat} {p q : Rat}
theorem sum_t (hp : Sz e p) (hq : Sz f q) : (p.num * q.den + q.num * p.den).natAbs ≤ 2 ^ (e + f + 1) := by
  refine Nat.le_trans (Int.natAbs_add_le _ _) ?_
  rw [Int.natAbs_mul, Int.natAbs_mul, Int.natAbs_natCast, Int.natAbs_natCast]
  refine add_le2 (mul_le2 hp.1 hq.2) ?_
  rw [Nat.mul_comm]; exact mul_le2 hp.2 hq.1
theorem diff_t (hp : Sz e p) (hq : Sz f q) : (p.num * q.den - q.num * p.den).natAbs ≤ 2 ^ (e + f + 1) := by
  refine Nat.le_trans (Int.natAbs_sub_le _ _) ?_
  rw [Int.natAbs_mul, Int.natAbs_mul, Int.natAbs_natCast, Int.natAbs_natCast]
  refine add_le2 (mul_le2 hp.1 hq.2) ?_
  rw [Nat.mul_comm]; exact mul_le2 hp.2 hq.1
theorem den_t (hp : Sz e p) (hq : Sz f q) : ((p.den : Int) * q.den).natAbs ≤ 2 ^ (e + f) := by
  rw [Int.natAbs_mul, Int.natAbs_natCast, Int.natAbs_natCast]; exact mul_le2 hp.2 hq.2
theorem prod_t (hp : Sz e p) (hq : Sz f q) : (p.num * q.num).natAbs ≤ 2 ^ (e + f) := by
  rw [Int.natAbs_mul]; exact mul_le2 hp.1 hq.1
theorem quot_t (hp : Sz e p) (hq : Sz f q) : (p.num * q.den).natAbs ≤ 2 ^ (e + f) := by
  rw [Int.natAbs_mul, Int.natAbs_natCast]; exact mul_le2 hp.1 hq.2
theorem quot_b (hp : Sz e p) (hq : Sz f q) : ((p.den : Int) * q.num).natAbs ≤ 2 ^ (e + f) := by
  rw [Int.natAbs_mul, Int.natAbs_natCast]; exact mul_le2 hp.2 hq.1
theorem dd_ne : (p.den : Int) * q.den ≠ 0 := Int.mul_ne_zero den_ne den_ne
theorem dn_ne (h : q ≠ 0) : (p.den : Int) * q.num ≠ 0 := Int.mul_ne_zero den_ne (num_ne h)
theorem Sz.add (hp : Sz e p) (hq : Sz f q) : Sz (e + f + 1) (p + q) := by
  rw [← sum_eq]; exact Sz.divInt dd_ne (sum_t hp hq) (Nat.le_trans (den_t hp hq) (pow_le (by omega)))
theorem Sz.sub (hp : Sz e p) (hq : Sz f q) : Sz (e + f + 1) (p - q) := by
  rw [← diff_eq]; exact Sz.divInt dd_ne (diff_t hp hq) (Nat.le_trans (den_t hp hq) (pow_le (by omega)))
theorem Sz.mul (hp : Sz e p) (hq : Sz f q) : Sz (e + f) (p * q) := by
  rw [← prod_eq]; exact Sz.divInt dd_ne (prod_t hp hq) (den_t hp hq)
theorem Sz.div (hp : Sz e p) (hq : Sz f q) (h : q ≠ 0) : Sz (e + f) (p / q) := by
  rw [← quot_eq]; exact Sz.divInt (dn_ne h) (quot_t hp hq) (quot_b hp hq)
theorem Sz.neg (hp : Sz e p) : Sz e (-p) := by
  refine ⟨?_, ?_⟩
  · rw [Rat.neg_num, Int.natAbs_neg]; exact hp.1
  · rw [Rat.neg_den]; exact hp.2
end
theorem num0 : (0:Int) = (0:Rat).num := rfl
theorem num1 : (1:Int) = (1:Rat).num := rfl
theorem den0 : (1:Int) = ((0:Rat).den : Int) := rfl
theorem den1 : (1:Int) = ((1:Rat).den : Int) := rfl
theorem Sz.zero : Sz 0 0 := ⟨by decide, by decide⟩
theorem Sz.one : Sz 0 1 := ⟨by decide, by decide⟩
end Mine
end
section
open PySem PySem.W PyProof.Rows PySem.Calls PySem.Spec
set_option Elab.async false
set_option maxRecDepth 100000
set_option maxHeartbeats 8000000
namespace Mine
theorem neg_does (w : World) (mean : ExcName → Option Value) (mg mb : Str → Option Value) (news : List (Addr × Obj)) (x : Addr) (n d : Int) (t1 t2 : Tok) (c : Nat) (hx : (x, tup2 n t1 d t2 c) ∈ news) :
    Does w mean mg mb 1 102 news [.ref x] (RatPost (-n) d news) := by
  intro dp un gd cn cs a ccd cl outer A₀ base h₀ L m s Q E B F X N T hk hd hu hret
  refine wpAny_call ?_
  k_dflt ktr_enter

  k_steps

  all_goals (exact hret _ _ _ _ (by k_asm) (by k_asm) (ratPost_end rfl rfl (by ktn_lt)))
end Mine
end
section
open PySem PySem.W PyProof.Rows PySem.Calls PySem.Spec
set_option Elab.async false
set_option maxRecDepth 100000
set_option maxHeartbeats 8000000
namespace Mine
def GInv (x y a b : Int) : Prop := 0 ≤ a ∧ 0 ≤ b ∧ (Int.gcd a b : Int) = Int.gcd x y
theorem ginv_start (x y : Int) : GInv x y (if x < 0 then -x else x) (if y < 0 then -y else y) := by
  refine ⟨by split <;> omega, by split <;> omega, ?_⟩
  split <;> split <;> simp [Int.gcd_eq_natAbs_gcd_natAbs]
theorem ginv_turn {x y a b : Int} (h : GInv x y a b) (hb : 0 < b) : GInv x y b (a.fmod b) := by
  obtain ⟨h1, h2, h3⟩ := h
  have e : a.fmod b = a % b := Int.fmod_eq_emod_of_nonneg _ (by omega)
  rw [e]
  refine ⟨h2, Int.emod_nonneg _ (by omega), ?_⟩
  rw [← h3, Int.gcd_eq_natAbs_gcd_natAbs, Int.gcd_eq_natAbs_gcd_natAbs, Int.natAbs_emod_of_nonneg h1, Nat.gcd_comm a.natAbs, Nat.gcd_rec b.natAbs a.natAbs, Nat.gcd_comm]
theorem ginv_end {x y a b : Int} (h : GInv x y a b) (hb : ¬ 0 < b) : a = Int.gcd x y := by
  obtain ⟨h1, h2, h3⟩ := h
  have : b = 0 := by omega
  subst this
  rw [← h3, Int.gcd_zero]
  omega
theorem gmeas {a b : Int} (h : 0 < b) : (a.fmod b).toNat < b.toNat := by
  have e : a.fmod b = a % b := Int.fmod_eq_emod_of_nonneg _ (by omega)
  have := Int.emod_lt_of_pos a h
  rw [e]; omega
theorem div_does (w : World) (mean : ExcName → Option Value) (mg mb : Str → Option Value) (news : List (Addr × Obj)) (x y : Int) (t1 t2 : Tok)  :
    Does w mean mg mb 1 60 news [.int x t1, .int y t2] (IntPost (Int.gcd x y) news) := by
  intro dp un gd cn cs a ccd cl outer A₀ base h₀ L m s Q E B F X N T hk hd hu hret
  refine wpAny_call ?_
  k_dflt ktr_enter
  (k_with "state" => first | exact ginv_start _ _ | exact ginv_turn (by assumption) (by assumption))
  (k_with "measure" => exact gmeas (by assumption))
  (k_with "exec While Compare cons nil" => k_while (fun (_ : List Int) a b => GInv x y a b) (fun (_ : List Int) (a b : Int) => b.toNat) "a" "b")
  k_steps
  all_goals (exact hret _ _ _ _ (by k_asm) (by k_asm) (intPost_end (ginv_end (by assumption) (by assumption))))
end Mine
end
section
open PySem PySem.W PyProof.Rows PySem.Calls PySem.Spec
set_option Elab.async false
set_option maxRecDepth 100000
set_option maxHeartbeats 8000000
namespace Mine
theorem Fit.bits {x : Int} (h : Fit x) : Builtin.Int.intBits x ≤ 2 ^ 20 := by
  unfold Fit at h
  unfold Builtin.Int.intBits
  have hl : x.natAbs.log2 < 2600 ∨ x.natAbs = 0 := by
    by_cases h0 : x.natAbs = 0
    · exact Or.inr h0
    · exact Or.inl ((Nat.log2_lt h0).mpr h)
  have : (2 : Nat) ^ 20 = 1048576 := by decide
  clear h
  split
  · omega
  · rcases hl with h1 | h1
    · omega
    · rw [h1, Nat.log2_zero]; omega
theorem Fit.mul {x y : Int} (h : Fit x) (g : Fit y) : IntMulOk x y := IntMulOk.of_bits h.bits g.bits
theorem Fit.log {x : Int} (h : Fit x) : x.natAbs.log2 < 9000 := by
  unfold Fit at h
  by_cases h0 : x.natAbs = 0
  · rw [h0]; decide +kernel
  · have := (Nat.log2_lt h0).mpr h
    omega
def Great (mg : Str → Option Value) : Prop := ∃ (GR : Int) (tG : Tok), mg (Str.ofString "GREATEST") = some (.int GR tG) ∧ ((2 ^ 2300 : Nat) : Int) ≤ GR
theorem le_great {x : Int} {e : Nat} {GR : Int} (h : x.natAbs ≤ 2 ^ e) (he : e ≤ 2300) (g : ((2 ^ 2300 : Nat) : Int) ≤ GR) : (x.natAbs : Int) ≤ GR := by
  have h1 : (2:Nat) ^ e ≤ 2 ^ 2300 := pow_le he
  have h2 : x.natAbs ≤ 2 ^ 2300 := Nat.le_trans h h1
  exact Int.le_trans (Int.ofNat_le.mpr h2) g
section
variable {w : World} {mean : ExcName → Option Value} {mg mb : Str → Option Value} {k : Nat} {f : Addr} {news : List (Addr × Obj)} {vs : List Value} {Post : List (Addr × Obj) → Value → Prop}
  {dp un : Nat} {gd : Option (List Code)} {cn : Str} {cs : Scope} {a : Addr} {ccd : Value} {cl : List (Str × Addr)} {outer : List Env} {A₀ : Around} {base h₀ : Heap} {L : Addr} {m : Str → Option Value} {s : Shared} {Q E : Value → Shared → Prop}
theorem use_int {v : Int} (D : Does w mean mg mb k f news vs (IntPost v news)) (B : Below A₀ base outer h₀) (F : Fr h₀ L s.heap m) (X : (Hd.hd.heap_1 w.params).In h₀) (N : News h₀ L s.heap news) (T : Top Hd.hd.view_1 LO mean mg mb h₀) (hk : cs.kind = .function)
    (hd : dp + k < recursionLimit) (hu : un + 8 * k < cLine) (ret : ∀ u h' tk', Fr h₀ L h' m → News h₀ L h' news → Q (.int v u) { s with heap := h', toks := tk' }) :
    wpAny (model PR w) (ktrTop dp un gd cn cs L a ccd cl outer) (call (.ref f) vs) Q E s :=
  D dp un gd cn cs a ccd cl outer A₀ base h₀ L m s Q E B F X N T hk hd hu (fun r news' h' tk' F' N' ⟨u, e1, e2⟩ => by subst e1; subst e2; exact ret u h' tk' F' N')
theorem use_rat {n d : Int} (D : Does w mean mg mb k f news vs (RatPost n d news)) (B : Below A₀ base outer h₀) (F : Fr h₀ L s.heap m) (X : (Hd.hd.heap_1 w.params).In h₀) (N : News h₀ L s.heap news) (T : Top Hd.hd.view_1 LO mean mg mb h₀) (hk : cs.kind = .function)
    (hd : dp + k < recursionLimit) (hu : un + 8 * k < cLine) (ret : ∀ D u1 u2 c h' tk', Fr h₀ L h' m → News h₀ L h' ((D, tup2 n u1 d u2 c) :: news) → AllLt D news → Q (.ref D) { s with heap := h', toks := tk' }) :
    wpAny (model PR w) (ktrTop dp un gd cn cs L a ccd cl outer) (call (.ref f) vs) Q E s :=
  D dp un gd cn cs a ccd cl outer A₀ base h₀ L m s Q E B F X N T hk hd hu (fun r news' h' tk' F' N' ⟨D, u1, u2, c, e1, e2, e3⟩ => by subst e1; subst e2; exact ret D u1 u2 c h' tk' F' N' e3)
end
end Mine
end
section
open PySem PySem.W PyProof.Rows PySem.Calls PySem.Spec
set_option Elab.async false
set_option maxRecDepth 100000
set_option maxHeartbeats 8000000
namespace Mine
theorem Fit.neg {x : Int} (h : Fit x) : Fit (-x) := by unfold Fit at *; rwa [Int.natAbs_neg]
theorem Fit.gcd {x y : Int} (h : Fit y) (hy : y ≠ 0) : Fit (Int.gcd x y : Int) := by
  unfold Fit at *
  rw [Int.natAbs_natCast]
  exact Nat.lt_of_le_of_lt (Nat.le_of_dvd (by omega) (Int.gcd_dvd_natAbs_right x y)) h
section
variable {w : World} {mean : ExcName → Option Value} {mg mb : Str → Option Value} {k : Nat} {f : Addr} {news : List (Addr × Obj)} {vs : List Value} {Post : List (Addr × Obj) → Value → Prop}
  {dp un : Nat} {gd : Option (List Code)} {cn : Str} {cs : Scope} {a : Addr} {ccd : Value} {cl : List (Str × Addr)} {outer : List Env} {A₀ : Around} {base h₀ : Heap} {L : Addr} {m : Str → Option Value} {s : Shared} {Q E : Value → Shared → Prop}
theorem use_div {x y : Int} {t1 t2 : Tok} (B : Below A₀ base outer h₀) (F : Fr h₀ L s.heap m) (X : (Hd.hd.heap_1 w.params).In h₀) (N : News h₀ L s.heap news) (T : Top Hd.hd.view_1 LO mean mg mb h₀) (hk : cs.kind = .function)
    (hd : dp + 1 < recursionLimit) (hu : un + 8 * 1 < cLine) (hy : y ≠ 0) (hf : Fit y) (ret : ∀ u h' tk', Fr h₀ L h' m → News h₀ L h' news → (Int.gcd x y : Int) ≠ 0 → Fit (Int.gcd x y : Int) → Q (.int (Int.gcd x y : Int) u) { s with heap := h', toks := tk' }) :
    wpAny (model PR w) (ktrTop dp un gd cn cs L a ccd cl outer) (call (.ref 60) [.int x t1, .int y t2]) Q E s :=
  use_int (div_does w mean mg mb news x y t1 t2) B F X N T hk hd hu (fun u h' tk' F' N' => ret u h' tk' F' N' (by have := Int.gcd_eq_zero_iff (a := x) (b := y); omega) (Fit.gcd hf hy))
theorem fdiv_rule {A : Around} {x y : Int} {t u : Tok} (hb : y ≠ 0) (hf : Fit y) (h : Q (.int (x.fdiv y) s.toks) { s with toks := s.toks + 1 }) : wpAny (model PR w) A (binaryOp .FloorDiv (.int x t) (.int y u)) Q E s :=
  floordiv_int hb h (Or.inl (PyProof.noPylong_of_log2 hf.log))
end
theorem words6_0 : True := by
  k_with_none
  k_with "execs cons" => first | (k_here; k_gentoks) | ((with_reducible refine wpAny_execs_cons ?_); k_fold)
  k_with "binaryOp FloorDiv int int" => ((with_reducible show wpAny _ _ (binaryOp _ (Value.int _ _) (Value.int _ _)) _ _ _); with_reducible refine fdiv_rule (by assumption) (by assumption) ?_; (try dsimp only))
  k_with "call ref" => (k_here; (with_reducible show wpAny _ _ (call (Value.ref 60) _) _ _ _); k_dflt (refine' use_div ?k1_w2 ?k2_w2 ?k3_w2 ?k4_w2 ?k5_w2 ?kK_w2 ?kd_w2 ?ku_w2 ?ky_w2 ?kf_w2 ?_; (case k1_w2 => k_asm); (case k2_w2 => k_asm); (case k3_w2 => k_asm); (case k4_w2 => k_asm); (case k5_w2 => k_asm); (case kK_w2 => first | exact rfl | assumption); (case kd_w2 => ktr_room); (case ku_w2 => ktr_units); (case ky_w2 => first | assumption | omega); (case kf_w2 => first | assumption | exact Fit.neg (by assumption))); intro u'_w2 h'_w2 tk'_w2 F'_w2 N'_w2 hz'_w2 hf'_w2; (try dsimp only); (try k_fold))
  k_with "eval Name" => ((with_reducible show wpAny _ _ (eval (PySem.Expr.Name (PySem.Str.ofString "GREATEST") _) _) _ _ _); (rename Fr _ _ _ _ => F'_w3); k_dflt (refine tp_bound F'_w3 (by assumption) (by assumption) ?_); (try dsimp only))
  trivial
theorem bad1 {t g GR : Int} (h : GR < if t.fdiv g < 0 then -(t.fdiv g) else t.fdiv g) (hg : 0 ≤ g) (ht : (t.natAbs : Int) ≤ GR) : False := by
  rw [Int.fdiv_eq_ediv_of_nonneg _ hg] at h
  have h1 := Int.natAbs_ediv_le_natAbs t g
  split at h <;> omega
theorem bad2 {t g GR : Int} (h : GR < t.fdiv g) (hg : 0 ≤ g) (ht : (t.natAbs : Int) ≤ GR) : False := by
  rw [Int.fdiv_eq_ediv_of_nonneg _ hg] at h
  have h1 := Int.natAbs_ediv_le_natAbs t g
  omega
theorem natAbs_le_neg {t GR : Int} (h : (t.natAbs : Int) ≤ GR) : ((-t).natAbs : Int) ≤ GR := by rwa [Int.natAbs_neg]
theorem num_pos {t b : Int} (hb : b ≠ 0) (hn : ¬ b < 0) : t.fdiv (Int.gcd t b) = (Rat.divInt t b).num := by
  rw [Int.fdiv_eq_ediv_of_nonneg _ (by omega), Rat.num_divInt, Int.sign_eq_one_of_pos (by omega), Int.one_mul, Int.gcd_comm]
theorem den_pos {t b : Int} (hb : b ≠ 0) (hn : ¬ b < 0) : b.fdiv (Int.gcd t b) = (Rat.divInt t b).den := by
  rw [Int.fdiv_eq_ediv_of_nonneg _ (by omega), Rat.den_divInt, if_neg hb, Int.gcd_comm, Int.natCast_ediv]
  congr 1
  omega
theorem num_neg {t b : Int} (hn : b < 0) : (-t).fdiv (Int.gcd (-t) (-b)) = (Rat.divInt t b).num := by
  rw [num_pos (by omega) (by omega), Rat.neg_divInt_neg]
theorem den_neg {t b : Int} (hn : b < 0) : (-b).fdiv (Int.gcd (-t) (-b)) = (Rat.divInt t b).den := by
  rw [den_pos (by omega) (by omega), Rat.neg_divInt_neg]
theorem make_does (w : World) (mean : ExcName → Option Value) (mg mb : Str → Option Value) (GR : Int) (tG : Tok) (hG : mg (Str.ofString "GREATEST") = some (.int GR tG)) (news : List (Addr × Obj)) (t b : Int) (t1 t2 : Tok) (hb : b ≠ 0) (ht : (t.natAbs : Int) ≤ GR) (hb' : (b.natAbs : Int) ≤ GR) (hf : Fit b) :
    Does w mean mg mb 2 67 news [.int t t1, .int b t2] (RatPost (Rat.divInt t b).num (Rat.divInt t b).den news) := by
  intro dp un gd cn cs a ccd cl outer A₀ base h₀ L m s Q E B F X N T hk hd hu hret
  refine wpAny_call ?_
  k_dflt ktr_enter
  k_steps
  all_goals first
    | (exfalso; first | contradiction | exact bad1 (by assumption) (by omega) (by first | assumption | exact natAbs_le_neg (by assumption)) | exact bad2 (by assumption) (by omega) (by first | assumption | exact natAbs_le_neg (by assumption)))
    | (refine hret _ _ _ _ (by k_asm) (by k_asm) (ratPost_end ?_ ?_ (by ktn_lt)) <;> first | exact num_pos (by assumption) (by assumption) | exact den_pos (by assumption) (by assumption) | exact num_neg (by assumption) | exact den_neg (by assumption))
end Mine
end
section
open PySem PySem.W PyProof.Rows PySem.Calls PySem.Spec
set_option Elab.async false
set_option maxRecDepth 100000
set_option maxHeartbeats 8000000
namespace Mine
theorem words7_0 : True := by
  k_with_none
  k_with "execs cons" => first | (k_here; k_gentoks) | ((with_reducible refine wpAny_execs_cons ?_); k_fold)
  k_with "mul_fits" => exact Fit.mul (by assumption) (by assumption)
  k_with "call ref" => (k_here; (with_reducible show wpAny _ _ (call (Value.ref 67) _) _ _ _); k_dflt (refine' use_rat (make_does _ _ _ _ _ _ ?h1_w5 _ _ _ _ _ ?h2_w5 ?h3_w5 ?h4_w5 ?h5_w5) ?k1_w5 ?k2_w5 ?k3_w5 ?k4_w5 ?k5_w5 ?kK_w5 ?kd_w5 ?ku_w5 ?_; (case h1_w5 => assumption); (case h2_w5 => assumption); (case h3_w5 => assumption); (case h4_w5 => assumption); (case h5_w5 => assumption); (case k1_w5 => k_asm); (case k2_w5 => k_asm); (case k3_w5 => k_asm); (case k4_w5 => k_asm); (case k5_w5 => k_asm); (case kK_w5 => first | exact rfl | assumption); (case kd_w5 => ktr_room); (case ku_w5 => ktr_units)); intro D'_w5 u1'_w5 u2'_w5 c'_w5 h'_w5 tk'_w5 F'_w5 N'_w5 l1'_w5; (try dsimp only); (try k_fold))
  trivial

theorem sum_does (w : World) (mean : ExcName → Option Value) (mg mb : Str → Option Value) (G : Great mg) (news : List (Addr × Obj)) (x y : Addr) (p q : Rat) (e f : Nat) (n1 n2 d1 d2 : Int) (t1 t2 t3 t4 : Tok) (c1 c2 : Nat)
    (i1 : n1 = p.num) (i2 : d1 = p.den) (i3 : n2 = q.num) (i4 : d2 = q.den) (hx : (x, tup2 n1 t1 d1 t2 c1) ∈ news) (hy : (y, tup2 n2 t3 d2 t4 c2) ∈ news) (hp : Sz e p) (hq : Sz f q) (hs : e + f + 1 ≤ 2300) :
    Does w mean mg mb 3 74 news [.ref x, .ref y] (RatPost (p + q).num (p + q).den news) := by
  subst i1 i2 i3 i4
  obtain ⟨GR, tG, hG, hGR⟩ := G
  have f1 : Fit p.num := hp.fitN (by omega)
  have f2 : Fit (p.den : Int) := hp.fitD (by omega)
  have f3 : Fit q.num := hq.fitN (by omega)
  have f4 : Fit (q.den : Int) := hq.fitD (by omega)
  have m1 := sum_t hp hq
  have m2 := den_t hp hq
  have k1 := le_great m1 (by omega) hGR
  have k2 := le_great m2 (by omega) hGR
  have k3 := le_fit m2 (by omega)
  have k4 := dd_ne (p := p) (q := q)
  rw [← sum_eq p q]
  intro dp un gd cn cs a ccd cl outer A₀ base h₀ L m s Q E B F X N T hk hd hu hret
  refine wpAny_call ?_
  k_dflt ktr_enter
  k_steps
  all_goals (exact hret _ _ _ _ (by k_asm) (by k_asm) (ratPost_end rfl rfl (by ktn_lt)))

theorem diff_does (w : World) (mean : ExcName → Option Value) (mg mb : Str → Option Value) (G : Great mg) (news : List (Addr × Obj)) (x y : Addr) (p q : Rat) (e f : Nat) (n1 n2 d1 d2 : Int) (t1 t2 t3 t4 : Tok) (c1 c2 : Nat)
    (i1 : n1 = p.num) (i2 : d1 = p.den) (i3 : n2 = q.num) (i4 : d2 = q.den) (hx : (x, tup2 n1 t1 d1 t2 c1) ∈ news) (hy : (y, tup2 n2 t3 d2 t4 c2) ∈ news) (hp : Sz e p) (hq : Sz f q) (hs : e + f + 1 ≤ 2300) :
    Does w mean mg mb 3 81 news [.ref x, .ref y] (RatPost (p - q).num (p - q).den news) := by
  subst i1 i2 i3 i4
  obtain ⟨GR, tG, hG, hGR⟩ := G
  have f1 : Fit p.num := hp.fitN (by omega)
  have f2 : Fit (p.den : Int) := hp.fitD (by omega)
  have f3 : Fit q.num := hq.fitN (by omega)
  have f4 : Fit (q.den : Int) := hq.fitD (by omega)
  have m1 := diff_t hp hq
  have m2 := den_t hp hq
  have k1 := le_great m1 (by omega) hGR
  have k2 := le_great m2 (by omega) hGR
  have k3 := le_fit m2 (by omega)
  have k4 := dd_ne (p := p) (q := q)
  rw [← diff_eq p q]
  intro dp un gd cn cs a ccd cl outer A₀ base h₀ L m s Q E B F X N T hk hd hu hret
  refine wpAny_call ?_
  k_dflt ktr_enter
  k_steps
  all_goals (exact hret _ _ _ _ (by k_asm) (by k_asm) (ratPost_end rfl rfl (by ktn_lt)))

theorem prod_does (w : World) (mean : ExcName → Option Value) (mg mb : Str → Option Value) (G : Great mg) (news : List (Addr × Obj)) (x y : Addr) (p q : Rat) (e f : Nat) (n1 n2 d1 d2 : Int) (t1 t2 t3 t4 : Tok) (c1 c2 : Nat)
    (i1 : n1 = p.num) (i2 : d1 = p.den) (i3 : n2 = q.num) (i4 : d2 = q.den) (hx : (x, tup2 n1 t1 d1 t2 c1) ∈ news) (hy : (y, tup2 n2 t3 d2 t4 c2) ∈ news) (hp : Sz e p) (hq : Sz f q) (hs : e + f + 1 ≤ 2300) :
    Does w mean mg mb 3 88 news [.ref x, .ref y] (RatPost (p * q).num (p * q).den news) := by
  subst i1 i2 i3 i4
  obtain ⟨GR, tG, hG, hGR⟩ := G
  have f1 : Fit p.num := hp.fitN (by omega)
  have f2 : Fit (p.den : Int) := hp.fitD (by omega)
  have f3 : Fit q.num := hq.fitN (by omega)
  have f4 : Fit (q.den : Int) := hq.fitD (by omega)
  have m1 := prod_t hp hq
  have m2 := den_t hp hq
  have k1 := le_great m1 (by omega) hGR
  have k2 := le_great m2 (by omega) hGR
  have k3 := le_fit m2 (by omega)
  have k4 := dd_ne (p := p) (q := q)
  rw [← prod_eq p q]
  intro dp un gd cn cs a ccd cl outer A₀ base h₀ L m s Q E B F X N T hk hd hu hret
  refine wpAny_call ?_
  k_dflt ktr_enter
  k_steps
  all_goals (exact hret _ _ _ _ (by k_asm) (by k_asm) (ratPost_end rfl rfl (by ktn_lt)))

theorem quot_does (w : World) (mean : ExcName → Option Value) (mg mb : Str → Option Value) (G : Great mg) (news : List (Addr × Obj)) (x y : Addr) (p q : Rat) (e f : Nat) (n1 n2 d1 d2 : Int) (t1 t2 t3 t4 : Tok) (c1 c2 : Nat)
    (i1 : n1 = p.num) (i2 : d1 = p.den) (i3 : n2 = q.num) (i4 : d2 = q.den) (hx : (x, tup2 n1 t1 d1 t2 c1) ∈ news) (hy : (y, tup2 n2 t3 d2 t4 c2) ∈ news) (hp : Sz e p) (hq : Sz f q) (hs : e + f + 1 ≤ 2300) (hn : q ≠ 0) :
    Does w mean mg mb 3 95 news [.ref x, .ref y] (RatPost (p / q).num (p / q).den news) := by
  subst i1 i2 i3 i4
  obtain ⟨GR, tG, hG, hGR⟩ := G
  have f1 : Fit p.num := hp.fitN (by omega)
  have f2 : Fit (p.den : Int) := hp.fitD (by omega)
  have f3 : Fit q.num := hq.fitN (by omega)
  have f4 : Fit (q.den : Int) := hq.fitD (by omega)
  have m1 := quot_t hp hq
  have m2 := quot_b hp hq
  have k1 := le_great m1 (by omega) hGR
  have k2 := le_great m2 (by omega) hGR
  have k3 := le_fit m2 (by omega)
  have k4 := dn_ne (p := p) hn
  rw [← quot_eq p q]
  intro dp un gd cn cs a ccd cl outer A₀ base h₀ L m s Q E B F X N T hk hd hu hret
  refine wpAny_call ?_
  k_dflt ktr_enter
  k_steps
  all_goals (exact hret _ _ _ _ (by k_asm) (by k_asm) (ratPost_end rfl rfl (by ktn_lt)))
end Mine
end
section
open PySem PySem.W PyProof.Rows PySem.Calls PySem.Spec
set_option Elab.async false
set_option maxRecDepth 100000
set_option maxHeartbeats 8000000
namespace Mine
abbrev pressObj (S : Addr) (k : Int) (t : Tok) (c : Nat) : Obj := { cls := .type "list", data := .seq #[.ref S, .int k t] c }
abbrev listObj (vs : List Value) (c : Nat) : Obj := { cls := .type "list", data := .seq vs.toArray c }
theorem ne_of_allLt {D : Addr} {news : List (Addr × Obj)} (h : AllLt D news) : ∀ p ∈ news, p.1 ≠ D := fun p hp => Nat.ne_of_lt (ktn_ltOf h p hp)
theorem mq0 {a : Addr × Obj} {l : List (Addr × Obj)} : a ∈ a :: l := .head _
theorem mq1 {a b0 : Addr × Obj} {l : List (Addr × Obj)} : a ∈ b0 :: a :: l := .tail _ (.head _)
theorem mq2 {a b0 b1 : Addr × Obj} {l : List (Addr × Obj)} : a ∈ b0 :: b1 :: a :: l := .tail _ (.tail _ (.head _))
theorem mq3 {a b0 b1 b2 : Addr × Obj} {l : List (Addr × Obj)} : a ∈ b0 :: b1 :: b2 :: a :: l := .tail _ (.tail _ (.tail _ (.head _)))
theorem mq4 {a b0 b1 b2 b3 : Addr × Obj} {l : List (Addr × Obj)} : a ∈ b0 :: b1 :: b2 :: b3 :: a :: l := .tail _ (.tail _ (.tail _ (.tail _ (.head _))))
theorem mq5 {a b0 b1 b2 b3 b4 : Addr × Obj} {l : List (Addr × Obj)} : a ∈ b0 :: b1 :: b2 :: b3 :: b4 :: a :: l := .tail _ (.tail _ (.tail _ (.tail _ (.tail _ (.head _)))))
theorem mq6 {a b0 b1 b2 b3 b4 b5 : Addr × Obj} {l : List (Addr × Obj)} : a ∈ b0 :: b1 :: b2 :: b3 :: b4 :: b5 :: a :: l := .tail _ (.tail _ (.tail _ (.tail _ (.tail _ (.tail _ (.head _))))))
theorem mq7 {a b0 b1 b2 b3 b4 b5 b6 : Addr × Obj} {l : List (Addr × Obj)} : a ∈ b0 :: b1 :: b2 :: b3 :: b4 :: b5 :: b6 :: a :: l := .tail _ (.tail _ (.tail _ (.tail _ (.tail _ (.tail _ (.tail _ (.head _)))))))
theorem mq8 {a b0 b1 b2 b3 b4 b5 b6 b7 : Addr × Obj} {l : List (Addr × Obj)} : a ∈ b0 :: b1 :: b2 :: b3 :: b4 :: b5 :: b6 :: b7 :: a :: l := .tail _ (.tail _ (.tail _ (.tail _ (.tail _ (.tail _ (.tail _ (.tail _ (.head _))))))))
theorem mq9 {a b0 b1 b2 b3 b4 b5 b6 b7 b8 : Addr × Obj} {l : List (Addr × Obj)} : a ∈ b0 :: b1 :: b2 :: b3 :: b4 :: b5 :: b6 :: b7 :: b8 :: a :: l := .tail _ (.tail _ (.tail _ (.tail _ (.tail _ (.tail _ (.tail _ (.tail _ (.tail _ (.head _)))))))))
theorem mqt {a b : Addr × Obj} {l : List (Addr × Obj)} (h : a ∈ l) : a ∈ b :: l := .tail _ h
theorem ne_cons {a D : Addr} {o : Obj} {l : List (Addr × Obj)} (h : @Ne Nat a D) (t : ∀ p ∈ l, p.1 ≠ D) : ∀ p ∈ (a, o) :: l, p.1 ≠ D := List.forall_mem_cons.mpr ⟨h, t⟩
theorem sub_cons {a : Addr × Obj} {l l' : List (Addr × Obj)} (h : a ∈ l') (t : ∀ p ∈ l, p ∈ l') : ∀ p ∈ a :: l, p ∈ l' := List.forall_mem_cons.mpr ⟨h, t⟩
theorem ne_symN {a b : Nat} (h : @Ne Nat b a) : @Ne Nat a b := Ne.symm h
theorem nsl1 {a b : Nat} (h : a ≤ b) : @Ne Nat a (b + 1) := Nat.ne_of_lt (Nat.lt_succ_of_le h)
theorem nsr1 {a b : Nat} (h : a ≤ b) : @Ne Nat (b + 1) a := Ne.symm (nsl1 h)
theorem words8_0 : True := by
  k_with_none
  k_with "execs cons" => first | (k_here; k_gentoks) | ((with_reducible refine wpAny_execs_cons ?_); k_fold)
  k_with "k_mem" => first | exact List.mem_cons_self .. | ktr_member | (refine List.mem_cons_of_mem _ ?_; k_mem)
  k_with "k_all" => first | (with_reducible assumption) | exact ne_of_allLt (by assumption)
  trivial
section
variable {prog : Program} {w : World} {A : Around} {E : Value → Shared → Prop} {s : Shared} {h₀ : Heap} {L D : Addr} {m : Str → Option Value} {news news' : List (Addr × Obj)} {vs : List Value} {n : Nat} {k : Int} {v : Value} {t : Tok}
theorem set_any {Q : Unit → Shared → Prop} (F : Fr h₀ L s.heap m) (N : News h₀ L s.heap news) (h0 : 0 ≤ k) (hfit : k < 2 ^ 63) (h1 : k.toNat < vs.length) (U : Upd D (listObj vs n) (listObj (vs.set k.toNat v) n) news news')
    (h : ∀ h', Fr h₀ L h' m → News h₀ L h' news' → Q () { s with heap := h' }) :
    wpAny (model prog w) A (setItem (.ref D) (.int k t) v) Q E s := by
  obtain ⟨pre, post, rfl, rfl, a, b⟩ := U.split
  have z := N (D, listObj vs n) (List.mem_append.mpr (.inr (.head _)))
  refine ki_setAt z.1 h0 hfit (by rw [List.size_toArray]; omega) (h _ (F.change (Heap.SameBut.update ..) z.2.1 z.2.2) (ki_turn _ N a b ?_ ?_))
  · show vs.toArray.setIfInBounds k.toNat v = (vs.set k.toNat v).toArray
    apply Array.toList_inj.mp
    simp
  · simp
theorem len_ints {l : Addr} {ns : List Int} {Q : Value → Shared → Prop} (N : News h₀ L s.heap news) (hm : (l, listObj vs n) ∈ news) (hi : IntsAre vs ns) (hl : ns.length ≤ 100000)
    (h : Q (.int ns.length (s.toks + 1)) { s with toks := s.toks + 1 + 1 }) : wpAny (model prog w) A (call (.builtin "len") [.ref l]) Q E s := by
  have e : vs.toArray.size = ns.length := by rw [List.size_toArray]; exact hi.length
  exact len_list (News.isList N hm) (by rw [e]; omega) (by rw [e]; exact h)
end
theorem words8_1 : True := by
  k_with "call builtin:len" => (k_here; (with_reducible show wpAny _ _ (call (Value.builtin "len") [Value.ref _]) _ _ _); k_dflt (refine' len_ints ?k1_w8 ?k2_w8 ?k3_w8 ?k4_w8 ?_; (case k1_w8 => k_asm); (case k2_w8 => k_mem); (case k3_w8 => with_reducible assumption); (case k4_w8 => omega); k_whole); (try dsimp only))
  k_with "setItem ref int" => (k_here; k_dflt (refine' set_any ?k1_w9 ?k2_w9 ?k3_w9 ?k4_w9 ?k5_w9 ?k6_w9 ?_; (case k1_w9 => k_asm); (case k2_w9 => k_asm); (case k3_w9 => decide); (case k4_w9 => decide); (case k5_w9 => decide); (case k6_w9 => k_upd); k_whole); intro h'_w9 F'_w9 N'_w9; (try dsimp only [List.set] at N'_w9); (try k_sweep))
  trivial
def PlatePost (P S : Addr) (k : Int) (c : Nat) (many : Int) (news news' : List (Addr × Obj)) (r : Value) : Prop := ∃ v u t', r = .int v u ∧ 0 ≤ v ∧ v < many ∧ news' = (P, pressObj S (k + 1) t' c) :: news
theorem platePost_end {P S : Addr} {k : Int} {c : Nat} {many : Int} {news : List (Addr × Obj)} {v : Int} {u t' : Nat} (hm : 0 < many) : PlatePost P S k c many news ((P, pressObj S (k + 1) t' c) :: news) (.int (v.fmod many) u) :=
  ⟨_, _, _, rfl, by rw [Int.fmod_eq_emod_of_nonneg _ (by omega)]; exact Int.emod_nonneg _ (by omega), by rw [Int.fmod_eq_emod_of_nonneg _ (by omega)]; exact Int.emod_lt_of_pos _ hm, rfl⟩
theorem plate_does (w : World) (mean : ExcName → Option Value) (mg mb : Str → Option Value) (news : List (Addr × Obj)) (P S : Addr) (k : Int) (tk : Tok) (c : Nat) (vs : List Value) (ns : List Int) (c2 : Nat) (many : Int) (t1 : Tok)
    (hS : (S, listObj vs c2) ∈ news) (hv : IntsAre vs ns) (hl : ns.length ≤ 40) (hk0 : 0 ≤ k) (hk1 : k ≤ 1000) (hm : 0 < many) (hm2 : many ≤ 9) (hd : ∀ p ∈ news, p.1 ≠ P) :
    Does w mean mg mb 1 131 ((P, pressObj S k tk c) :: news) [.ref P, .int many t1] (PlatePost P S k c many news) := by
  intro dp un gd cn cs a ccd cl outer A₀ base h₀ L m s Q E B F X N T hk hd hu hret
  refine wpAny_call ?_
  k_dflt ktr_enter
  k_steps
  all_goals (exact hret _ _ _ _ (by k_asm) (by k_asm) (platePost_end (by assumption)))
theorem use_plate {w : World} {mean : ExcName → Option Value} {mg mb : Str → Option Value} {all : List (Addr × Obj)} {P S : Addr} {k : Int} {tk : Tok} {c : Nat} {vs : List Value} {ns : List Int} {c2 : Nat} {many : Int} {t1 : Tok}
    {dp un : Nat} {gd : Option (List Code)} {cn : Str} {cs : Scope} {a : Addr} {ccd : Value} {cl : List (Str × Addr)} {outer : List Env} {A₀ : Around} {base h₀ : Heap} {L : Addr} {m : Str → Option Value} {s : Shared} {Q E : Value → Shared → Prop}
    (B : Below A₀ base outer h₀) (F : Fr h₀ L s.heap m) (X : (Hd.hd.heap_1 w.params).In h₀) (N : News h₀ L s.heap all) (T : Top Hd.hd.view_1 LO mean mg mb h₀) (hk : cs.kind = .function)
    (hd : dp + 1 < recursionLimit) (hu : un + 8 * 1 < cLine)
    (U₀ : Upd P (pressObj S k tk c) (pressObj S k tk c) all all) (hS : (S, listObj vs c2) ∈ all) (hv : IntsAre vs ns) (hl : ns.length ≤ 40) (hk0 : 0 ≤ k) (hk1 : k ≤ 1000) (hm : 0 < many) (hm2 : many ≤ 9) (hne : @Ne Nat S P)
    (ret : ∀ v u t' h' tk', 0 ≤ v → v < many → Fr h₀ L h' m → (∀ all', Upd P (pressObj S k tk c) (pressObj S (k + 1) t' c) all all' → News h₀ L h' all') → Q (.int v u) { s with heap := h', toks := tk' }) :
    wpAny (model PR w) (ktrTop dp un gd cn cs L a ccd cl outer) (call (.ref 131) [.ref P, .int many t1]) Q E s := by
  obtain ⟨pre, post, e1, -, h1, h2⟩ := U₀.split
  subst e1
  have hne' : ∀ p ∈ pre ++ post, p.1 ≠ P := fun p hp => (List.mem_append.mp hp).elim (h1 p) (h2 p)
  refine plate_does w mean mg mb (pre ++ post) P S k tk c vs ns c2 many t1 ?_ hv hl hk0 hk1 hm hm2 hne' dp un gd cn cs a ccd cl outer A₀ base h₀ L m s Q E B F X (fun p hp => N p ?_) T hk hd hu ?_
  · rcases List.mem_append.mp hS with h | h
    · exact List.mem_append.mpr (.inl h)
    · rcases List.mem_cons.mp h with h | h
      · exact absurd (congrArg Prod.fst h) hne
      · exact List.mem_append.mpr (.inr h)
  · rcases List.mem_cons.mp hp with rfl | h
    · exact List.mem_append.mpr (.inr (.head _))
    · rcases List.mem_append.mp h with h | h
      · exact List.mem_append.mpr (.inl h)
      · exact List.mem_append.mpr (.inr (.tail _ h))
  · rintro r news' h' tk' F' N' ⟨v, u, t', rfl, hv0, hv1, rfl⟩
    refine ret v u t' h' tk' hv0 hv1 F' fun all' U => ?_
    obtain ⟨pre', post', e1, e2, h1', h2'⟩ := U.split
    subst e2
    intro p hp
    have key : ∀ q ∈ pre' ++ post', q ∈ pre ++ post := fun q hq => by
      have hq' : q ∈ pre ++ (P, pressObj S k tk c) :: post := by
        rw [e1]
        rcases List.mem_append.mp hq with h | h
        · exact List.mem_append.mpr (.inl h)
        · exact List.mem_append.mpr (.inr (.tail _ h))
      rcases List.mem_append.mp hq' with h | h
      · exact List.mem_append.mpr (.inl h)
      · rcases List.mem_cons.mp h with h | h
        · exfalso
          have hqP : q.1 = P := by rw [h]
          rcases List.mem_append.mp hq with g | g
          · exact h1' q g hqP
          · exact h2' q g hqP
        · exact List.mem_append.mpr (.inr h)
    rcases List.mem_append.mp hp with h | h
    · exact N' p (.tail _ (key p (List.mem_append.mpr (.inl h))))
    · rcases List.mem_cons.mp h with rfl | h
      · exact N' _ (.head _)
      · exact N' p (.tail _ (key p (List.mem_append.mpr (.inr h))))
theorem upd_then {P : Addr} {o o' : Obj} {all all' : List (Addr × Obj)} {R : List (Addr × Obj) → Prop} {G : Prop} (h : ∀ all', Upd P o o' all all' → R all') (U : Upd P o o' all all') (g : R all' → G) : G := g (h _ U)
end Mine
end
section
open PySem PySem.W PyProof.Rows PySem.Calls PySem.Spec
set_option Elab.async false
set_option maxRecDepth 100000
set_option maxHeartbeats 8000000
namespace Mine
section
variable {w : World} {mean : ExcName → Option Value} {mg mb : Str → Option Value} {news : List (Addr × Obj)}
  {dp un : Nat} {gd : Option (List Code)} {cn : Str} {cs : Scope} {a : Addr} {ccd : Value} {cl : List (Str × Addr)} {outer : List Env} {A₀ : Around} {base h₀ : Heap} {L : Addr} {m : Str → Option Value} {s : Shared} {Q E : Value → Shared → Prop}
theorem sum_use {x y : Addr} {p q : Rat} {e f : Nat} {n1 n2 d1 d2 : Int} {t1 t2 t3 t4 : Tok} {c1 c2 : Nat} (B : Below A₀ base outer h₀) (F : Fr h₀ L s.heap m) (X : (Hd.hd.heap_1 w.params).In h₀) (N : News h₀ L s.heap news) (T : Top Hd.hd.view_1 LO mean mg mb h₀) (hk : cs.kind = .function) (hd : dp + 3 < recursionLimit) (hu : un + 8 * 3 < cLine) (G : Great mg) (hx : (x, tup2 n1 t1 d1 t2 c1) ∈ news) (hy : (y, tup2 n2 t3 d2 t4 c2) ∈ news) (i1 : n1 = p.num) (i2 : d1 = p.den) (i3 : n2 = q.num) (i4 : d2 = q.den) (hp : Sz e p) (hq : Sz f q) (hs : e + f + 1 ≤ 2300)
    (ret : ∀ D u1 u2 c h' tk', Fr h₀ L h' m → News h₀ L h' ((D, tup2 (p + q).num u1 (p + q).den u2 c) :: news) → AllLt D news → Sz (e + f + 1) (p + q) → Q (.ref D) { s with heap := h', toks := tk' }) :
    wpAny (model PR w) (ktrTop dp un gd cn cs L a ccd cl outer) (call (.ref 74) [.ref x, .ref y]) Q E s :=
  use_rat (sum_does w mean mg mb G news x y p q e f n1 n2 d1 d2 t1 t2 t3 t4 c1 c2 i1 i2 i3 i4 hx hy hp hq hs) B F X N T hk hd hu fun D u1 u2 c h' tk' F' N' l => ret D u1 u2 c h' tk' F' N' l (Sz.add hp hq)
theorem diff_use {x y : Addr} {p q : Rat} {e f : Nat} {n1 n2 d1 d2 : Int} {t1 t2 t3 t4 : Tok} {c1 c2 : Nat} (B : Below A₀ base outer h₀) (F : Fr h₀ L s.heap m) (X : (Hd.hd.heap_1 w.params).In h₀) (N : News h₀ L s.heap news) (T : Top Hd.hd.view_1 LO mean mg mb h₀) (hk : cs.kind = .function) (hd : dp + 3 < recursionLimit) (hu : un + 8 * 3 < cLine) (G : Great mg) (hx : (x, tup2 n1 t1 d1 t2 c1) ∈ news) (hy : (y, tup2 n2 t3 d2 t4 c2) ∈ news) (i1 : n1 = p.num) (i2 : d1 = p.den) (i3 : n2 = q.num) (i4 : d2 = q.den) (hp : Sz e p) (hq : Sz f q) (hs : e + f + 1 ≤ 2300)
    (ret : ∀ D u1 u2 c h' tk', Fr h₀ L h' m → News h₀ L h' ((D, tup2 (p - q).num u1 (p - q).den u2 c) :: news) → AllLt D news → Sz (e + f + 1) (p - q) → Q (.ref D) { s with heap := h', toks := tk' }) :
    wpAny (model PR w) (ktrTop dp un gd cn cs L a ccd cl outer) (call (.ref 81) [.ref x, .ref y]) Q E s :=
  use_rat (diff_does w mean mg mb G news x y p q e f n1 n2 d1 d2 t1 t2 t3 t4 c1 c2 i1 i2 i3 i4 hx hy hp hq hs) B F X N T hk hd hu fun D u1 u2 c h' tk' F' N' l => ret D u1 u2 c h' tk' F' N' l (Sz.sub hp hq)
theorem prod_use {x y : Addr} {p q : Rat} {e f : Nat} {n1 n2 d1 d2 : Int} {t1 t2 t3 t4 : Tok} {c1 c2 : Nat} (B : Below A₀ base outer h₀) (F : Fr h₀ L s.heap m) (X : (Hd.hd.heap_1 w.params).In h₀) (N : News h₀ L s.heap news) (T : Top Hd.hd.view_1 LO mean mg mb h₀) (hk : cs.kind = .function) (hd : dp + 3 < recursionLimit) (hu : un + 8 * 3 < cLine) (G : Great mg) (hx : (x, tup2 n1 t1 d1 t2 c1) ∈ news) (hy : (y, tup2 n2 t3 d2 t4 c2) ∈ news) (i1 : n1 = p.num) (i2 : d1 = p.den) (i3 : n2 = q.num) (i4 : d2 = q.den) (hp : Sz e p) (hq : Sz f q) (hs : e + f + 1 ≤ 2300)
    (ret : ∀ D u1 u2 c h' tk', Fr h₀ L h' m → News h₀ L h' ((D, tup2 (p * q).num u1 (p * q).den u2 c) :: news) → AllLt D news → Sz (e + f) (p * q) → Q (.ref D) { s with heap := h', toks := tk' }) :
    wpAny (model PR w) (ktrTop dp un gd cn cs L a ccd cl outer) (call (.ref 88) [.ref x, .ref y]) Q E s :=
  use_rat (prod_does w mean mg mb G news x y p q e f n1 n2 d1 d2 t1 t2 t3 t4 c1 c2 i1 i2 i3 i4 hx hy hp hq hs) B F X N T hk hd hu fun D u1 u2 c h' tk' F' N' l => ret D u1 u2 c h' tk' F' N' l (Sz.mul hp hq)
theorem quot_use {x y : Addr} {p q : Rat} {e f : Nat} {n1 n2 d1 d2 : Int} {t1 t2 t3 t4 : Tok} {c1 c2 : Nat} (B : Below A₀ base outer h₀) (F : Fr h₀ L s.heap m) (X : (Hd.hd.heap_1 w.params).In h₀) (N : News h₀ L s.heap news) (T : Top Hd.hd.view_1 LO mean mg mb h₀) (hk : cs.kind = .function) (hd : dp + 3 < recursionLimit) (hu : un + 8 * 3 < cLine) (G : Great mg) (hx : (x, tup2 n1 t1 d1 t2 c1) ∈ news) (hy : (y, tup2 n2 t3 d2 t4 c2) ∈ news) (i1 : n1 = p.num) (i2 : d1 = p.den) (i3 : n2 = q.num) (i4 : d2 = q.den) (hp : Sz e p) (hq : Sz f q) (hs : e + f + 1 ≤ 2300) (hn : q ≠ 0)
    (ret : ∀ D u1 u2 c h' tk', Fr h₀ L h' m → News h₀ L h' ((D, tup2 (p / q).num u1 (p / q).den u2 c) :: news) → AllLt D news → Sz (e + f) (p / q) → Q (.ref D) { s with heap := h', toks := tk' }) :
    wpAny (model PR w) (ktrTop dp un gd cn cs L a ccd cl outer) (call (.ref 95) [.ref x, .ref y]) Q E s :=
  use_rat (quot_does w mean mg mb G news x y p q e f n1 n2 d1 d2 t1 t2 t3 t4 c1 c2 i1 i2 i3 i4 hx hy hp hq hs hn) B F X N T hk hd hu fun D u1 u2 c h' tk' F' N' l => ret D u1 u2 c h' tk' F' N' l (Sz.div hp hq hn)
theorem neg_use {x : Addr} {p : Rat} {e : Nat} {n1 d1 : Int} {t1 t2 : Tok} {c1 : Nat} (B : Below A₀ base outer h₀) (F : Fr h₀ L s.heap m) (X : (Hd.hd.heap_1 w.params).In h₀) (N : News h₀ L s.heap news) (T : Top Hd.hd.view_1 LO mean mg mb h₀) (hk : cs.kind = .function) (hd : dp + 1 < recursionLimit) (hu : un + 8 * 1 < cLine) (hx : (x, tup2 n1 t1 d1 t2 c1) ∈ news) (i1 : n1 = p.num) (i2 : d1 = p.den) (hp : Sz e p)
    (ret : ∀ D u1 u2 c h' tk', Fr h₀ L h' m → News h₀ L h' ((D, tup2 (-p).num u1 (-p).den u2 c) :: news) → AllLt D news → Sz e (-p) → Q (.ref D) { s with heap := h', toks := tk' }) :
    wpAny (model PR w) (ktrTop dp un gd cn cs L a ccd cl outer) (call (.ref 102) [.ref x]) Q E s := by
  subst i1 i2
  exact use_rat (neg_does w mean mg mb news x p.num p.den t1 t2 c1 hx) B F X N T hk hd hu fun D u1 u2 c h' tk' F' N' l => ret D u1 u2 c h' tk' F' N' l (Sz.neg hp)
end
theorem words9_0 : True := by
  k_with_none
  k_with "execs cons" => first | (k_here; k_gentoks) | ((with_reducible refine wpAny_execs_cons ?_); k_fold)
  k_with "k_mem" => ((repeat' (first | (with_reducible exact mq0) | ktr_member | (with_reducible exact mq1) | (with_reducible exact mq2) | (with_reducible exact mq3) | (with_reducible exact mq4) | (with_reducible exact mq5) | (with_reducible exact mq6) | (with_reducible exact mq7) | (with_reducible exact mq8) | (with_reducible exact mq9) | (with_reducible refine mqt ?_))); done)
  k_with "mul_fits" => exact Fit.mul (by assumption) (by assumption)
  trivial
def ordI (a b : Int) : Int := if a < b then -1 else if b < a then 1 else 0
theorem ordI_lt {a b : Int} (h : a < b) : -1 = ordI a b := by unfold ordI; rw [if_pos h]
theorem ordI_gt {a b : Int} (h : ¬ a < b) (g : b < a) : 1 = ordI a b := by unfold ordI; rw [if_neg h, if_pos g]
theorem ordI_eq {a b : Int} (h : ¬ a < b) (g : ¬ b < a) : 0 = ordI a b := by unfold ordI; rw [if_neg h, if_neg g]
def ordR (p q : Rat) : Int := ordI (p.num * q.den) (q.num * p.den)
theorem order_does (w : World) (mean : ExcName → Option Value) (mg mb : Str → Option Value) (news : List (Addr × Obj)) (x y : Addr) (p q : Rat) (e f : Nat) (n1 n2 d1 d2 : Int) (t1 t2 t3 t4 : Tok) (c1 c2 : Nat)
    (i1 : n1 = p.num) (i2 : d1 = p.den) (i3 : n2 = q.num) (i4 : d2 = q.den) (hx : (x, tup2 n1 t1 d1 t2 c1) ∈ news) (hy : (y, tup2 n2 t3 d2 t4 c2) ∈ news) (hp : Sz e p) (hq : Sz f q) (hs : e + f + 1 ≤ 2300) :
    Does w mean mg mb 1 116 news [.ref x, .ref y] (IntPost (ordR p q) news) := by
  subst i1 i2 i3 i4
  have f1 : Fit p.num := hp.fitN (by omega)
  have f2 : Fit (p.den : Int) := hp.fitD (by omega)
  have f3 : Fit q.num := hq.fitN (by omega)
  have f4 : Fit (q.den : Int) := hq.fitD (by omega)
  intro dp un gd cn cs a ccd cl outer A₀ base h₀ L m s Q E B F X N T hk hd hu hret
  refine wpAny_call ?_
  k_dflt ktr_enter
  k_steps
  all_goals (exact hret _ _ _ _ (by k_asm) (by k_asm) (intPost_end (by first | exact ordI_lt (by assumption) | exact ordI_gt (by assumption) (by assumption) | exact ordI_eq (by assumption) (by assumption))))
section
variable {w : World} {mean : ExcName → Option Value} {mg mb : Str → Option Value} {news : List (Addr × Obj)}
  {dp un : Nat} {gd : Option (List Code)} {cn : Str} {cs : Scope} {a : Addr} {ccd : Value} {cl : List (Str × Addr)} {outer : List Env} {A₀ : Around} {base h₀ : Heap} {L : Addr} {m : Str → Option Value} {s : Shared} {Q E : Value → Shared → Prop}
theorem order_use {x y : Addr} {p q : Rat} {e f : Nat} {n1 n2 d1 d2 : Int} {t1 t2 t3 t4 : Tok} {c1 c2 : Nat} (B : Below A₀ base outer h₀) (F : Fr h₀ L s.heap m) (X : (Hd.hd.heap_1 w.params).In h₀) (N : News h₀ L s.heap news) (T : Top Hd.hd.view_1 LO mean mg mb h₀) (hk : cs.kind = .function) (hd : dp + 1 < recursionLimit) (hu : un + 8 * 1 < cLine) (hx : (x, tup2 n1 t1 d1 t2 c1) ∈ news) (hy : (y, tup2 n2 t3 d2 t4 c2) ∈ news) (i1 : n1 = p.num) (i2 : d1 = p.den) (i3 : n2 = q.num) (i4 : d2 = q.den) (hp : Sz e p) (hq : Sz f q) (hs : e + f + 1 ≤ 2300)
    (ret : ∀ u h' tk', Fr h₀ L h' m → News h₀ L h' news → Q (.int (ordR p q) u) { s with heap := h', toks := tk' }) :
    wpAny (model PR w) (ktrTop dp un gd cn cs L a ccd cl outer) (call (.ref 116) [.ref x, .ref y]) Q E s :=
  use_int (order_does w mean mg mb news x y p q e f n1 n2 d1 d2 t1 t2 t3 t4 c1 c2 i1 i2 i3 i4 hx hy hp hq hs) B F X N T hk hd hu ret
end
def rndR (p : Rat) : Int := if p.num < 0 then -((2 * (if p.num < 0 then -p.num else p.num) + p.den).fdiv (2 * p.den)) else (2 * (if p.num < 0 then -p.num else p.num) + p.den).fdiv (2 * p.den)
theorem rndR_neg {p : Rat} (h : p.num < 0) : -((2 * (if p.num < 0 then -p.num else p.num) + p.den).fdiv (2 * p.den)) = rndR p := by unfold rndR; exact (if_pos h).symm
theorem rndR_pos {p : Rat} (h : ¬ p.num < 0) : (2 * (if p.num < 0 then -p.num else p.num) + p.den).fdiv (2 * p.den) = rndR p := by unfold rndR; exact (if_neg h).symm
theorem fit_2den {p : Rat} {e : Nat} (hp : Sz e p) (he : e ≤ 2300) : Fit (2 * (p.den : Int)) := le_fit (e := e + 1) (by rw [Int.natAbs_mul, Int.natAbs_natCast, Nat.pow_succ, show (2:Int).natAbs = 2 from rfl]; have := hp.2; omega) (by omega)
theorem two_den_ne {p : Rat} : 2 * (p.den : Int) ≠ 0 := by have := p.den_nz; omega
theorem words9_1 : True := by
  k_with "binaryOp FloorDiv int int" => ((with_reducible show wpAny _ _ (binaryOp _ (Value.int _ _) (Value.int _ _)) _ _ _); with_reducible refine fdiv_rule (by assumption) (by assumption) ?_; (try dsimp only))
  trivial
theorem rounded_does (w : World) (mean : ExcName → Option Value) (mg mb : Str → Option Value) (news : List (Addr × Obj)) (x : Addr) (p : Rat) (e : Nat) (n1 d1 : Int) (t1 t2 : Tok) (c1 : Nat)
    (i1 : n1 = p.num) (i2 : d1 = p.den) (hx : (x, tup2 n1 t1 d1 t2 c1) ∈ news) (hp : Sz e p) (hs : e ≤ 2300) :
    Does w mean mg mb 1 123 news [.ref x] (IntPost (rndR p) news) := by
  subst i1 i2
  have f1 := fit_2den hp hs
  have f2 := two_den_ne (p := p)
  have f3 : Fit (2 : Int) := le_fit (e := 2) (by decide) (by decide)
  have f4 : IntMulOk 2 (if p.num < 0 then -p.num else p.num) := IntMulOk.of_left (by decide)
  have f5 : IntMulOk 2 (p.den : Int) := IntMulOk.of_left (by decide)
  intro dp un gd cn cs a ccd cl outer A₀ base h₀ L m s Q E B F X N T hk hd hu hret
  refine wpAny_call ?_
  k_dflt ktr_enter
  k_steps
  all_goals (exact hret _ _ _ _ (by k_asm) (by k_asm) (intPost_end (by first | exact rndR_neg (by assumption) | exact rndR_pos (by assumption))))
end Mine
end
section
open PySem PySem.W PyProof.Rows PySem.Calls PySem.Spec
set_option Elab.async false
set_option maxRecDepth 100000
set_option maxHeartbeats 8000000
namespace Mine
section
variable {prog : Program} {w : World} {A : Around} {E : Value → Shared → Prop} {s : Shared} {env : Env} {h₀ : Heap} {x : Str} {body : List Stmt} {Q : Flow → Shared → Prop}
def TurnsC (prog : Program) (w : World) (A : Around) (E : Value → Shared → Prop) (h₀ : Heap) (env : Env) (x : Str) (body : List Stmt) (Q : Flow → Shared → Prop) (s : Shared) (I : Addr) : List Int → (Str → Option Value) → List (Addr × Obj) → Prop
  | [], m, news => ∀ h tk, Fr h₀ env.locals h m → News h₀ env.locals h news → Q .next { s with heap := h, toks := tk }
  | v :: r, m, news => ∀ (it : Obj) t h tk, Fr h₀ env.locals h m → News h₀ env.locals h ((I, it) :: news) →
      wpAny (model prog w) A (storeName env x (.int v t)) (fun _ s' => wpAny (model prog w) A (execs body env)
        (UnrPost h₀ env.locals s I it (TurnsC prog w A E h₀ env x body Q s I r) Q) E s') E { s with heap := h, toks := tk }
theorem TurnsC.zero {I : Addr} {m : Str → Option Value} {news : List (Addr × Obj)} (h : ∀ h tk, Fr h₀ env.locals h m → News h₀ env.locals h news → Q .next { s with heap := h, toks := tk }) :
    TurnsC prog w A E h₀ env x body Q s I [] m news := h
theorem TurnsC.succ {I : Addr} {v : Int} {r : List Int} {m : Str → Option Value} {news : List (Addr × Obj)}
    (h : ∀ (it : Obj) t h tk, Fr h₀ env.locals h m → News h₀ env.locals h ((I, it) :: news) →
      wpAny (model prog w) A (storeName env x (.int v t)) (fun _ s' => wpAny (model prog w) A (execs body env)
        (UnrPost h₀ env.locals s I it (TurnsC prog w A E h₀ env x body Q s I r) Q) E s') E { s with heap := h, toks := tk }) :
    TurnsC prog w A E h₀ env x body Q s I (v :: r) m news := h
def LoopC (prog : Program) (w : World) (A : Around) (E : Value → Shared → Prop) (env : Env) (x : Str) (px : Pos) (body : List Stmt) (Q : Flow → Shared → Prop) (it : Value) (s₂ : Shared) : Prop :=
  codeAny (model prog w) A (.forLoop (.Name x px) it body [] env) (fun r s' => match r with | .ok f => Q f s' | .error e => cameBackBy (model prog w) A env E e s') s₂
theorem For_C {px pos : Pos} {iter : PySem.Expr} (h : wpAny (model prog w) A (eval iter env) (fun xv s₁ => wpAny (model prog w) A (pyIter xv) (LoopC prog w A E env x px body Q) E s₁) E s)
    (hs : ∀ x, foldedSetIterable iter env x = pure x := by intro _; rfl) : wpAny (model prog w) A (exec (.For (.Name x px) iter body [] pos) env) Q E s :=
  wpAny_For h hs
def upFrom (a : Int) : Nat → List Int
  | 0 => []
  | n + 1 => a :: upFrom (a + 1) n
theorem upFrom_len : ∀ (n : Nat) (a : Int), (upFrom a n).length = n
  | 0, _ => rfl
  | n + 1, a => by rw [upFrom, List.length_cons, upFrom_len n]
theorem upFrom_get : ∀ (n : Nat) (a : Int) (i : Nat), i < n → (upFrom a n)[i]? = some (a + (i : Int))
  | n + 1, a, 0, _ => by simp [upFrom]
  | n + 1, a, i + 1, h => by
    rw [upFrom, List.getElem?_cons_succ, upFrom_get n (a + 1) i (by omega)]
    congr 1
    omega
theorem iter_rangeC {px : Pos} {r : Addr} {a₀ b₀ : Int} {t₀ u₀ v₀ : Tok} {its : List Int} {m₀ : Str → Option Value} {news : List (Addr × Obj)}
    (hh : A.handled = none) (hr : IsRange s.heap r a₀ b₀ 1 t₀ u₀ v₀) (hsmall : Builtin.Range.small a₀ b₀ 1 = true) (hits : upFrom a₀ (Builtin.Range.rangeSize a₀ b₀ 1).toNat = its) (hpos : 0 ≤ Builtin.Range.rangeSize a₀ b₀ 1) (F : Fr h₀ env.locals s.heap m₀) (N : News h₀ env.locals s.heap news)
    (hE : PassesOwn (model prog w) A env E)
    (rest₀ : ∀ I : Addr, (∀ p ∈ news, p.1 < I) → TurnsC prog w A E h₀ env x body Q s I its m₀ news) :
    wpAny (model prog w) A (pyIter (.ref r)) (LoopC prog w A E env x px body Q) E s := by
  subst hits
  obtain ⟨n, hn⟩ : ∃ n : Nat, Builtin.Range.rangeSize a₀ b₀ 1 = (n : Int) := ⟨_, (Int.toNat_of_nonneg hpos).symm⟩
  have hnt : (Builtin.Range.rangeSize a₀ b₀ 1).toNat = n := by rw [hn]; rfl
  rw [hnt] at rest₀
  refine wpAny_pyIter_range hr hsmall ?_
  have rest := rest₀ s.heap.objs.size fun p hp => Heap.lt_size (N p hp).1
  have W := PyProof.Rows.LCg.range_walks (prog := prog) (w := w) (A := A) (I := s.heap.objs.size) hh a₀ n
  have hnew := next_is_new F
  have hIL : env.locals ≠ s.heap.objs.size := Nat.ne_of_lt F.ns.lt
  have old : ∀ b o, s.heap.get? b = some o → (s.heap.push { cls := .type "range_iterator", data := .fields #[rawInt a₀, rawInt (Builtin.Range.rangeSize a₀ b₀ 1), rawInt 1] }).get? b = some o := fun b o e => Heap.get?_push_of_some _ e
  refine codeAny_forLoop_any
    (fun k s' => ∃ h' tk m' news' i, s' = { s with heap := h', toks := tk } ∧ IsRangeIter h' s.heap.objs.size (a₀ + (i : Nat) * 1) ((n : Int) - (i : Nat)) 1 ∧ Fr h₀ env.locals h' m' ∧ News h₀ env.locals h' news' ∧ (∀ p ∈ news', p.1 ≠ s.heap.objs.size) ∧
      TurnsC prog w A E h₀ env x body Q s s.heap.objs.size ((upFrom a₀ n).drop i) m' news' ∧ i ≤ n ∧ k = n + 1 - i) ?_ (n + 1)
    ⟨_, s.toks, m₀, news, 0, rfl, (by show IsRangeIter _ _ _ _ _; rw [hn]; simpa using Heap.get?_push_size _ rfl), F.push _, (fun p hp => ⟨old _ _ (N p hp).1, (N p hp).2⟩), (fun p hp => Nat.ne_of_lt (Heap.lt_size (N p hp).1)), rest, Nat.zero_le _, rfl⟩
  rintro k s' ⟨h', tk, m', news', i, rfl, hst, F', N', hoff, R, hi, rfl⟩
  by_cases hlt : i < n
  · have hd : (upFrom a₀ n).drop i = (a₀ + (i : Int)) :: (upFrom a₀ n).drop (i + 1) := by
      have hl : i < (upFrom a₀ n).length := by rw [upFrom_len]; exact hlt
      rw [List.drop_eq_getElem_cons hl]
      congr 1
      exact Option.some.inj ((List.getElem?_eq_getElem hl).symm.trans (upFrom_get n a₀ i hlt))
    rw [hd] at R
    refine W.item i _ _ _ hlt hst fun v h₁ tk₁ hP hst₁ hk₁ => ?_
    obtain ⟨t, rfl⟩ := hP
    refine wpAny_pure ?_
    have F₁ := PyProof.Rows.LCg.fr_but F' hk₁ hIL hnew
    have hst₁' : h₁.get? s.heap.objs.size = some (itR (a₀ + ((i + 1 : Nat) : Int)) ((n : Int) - ((i + 1 : Nat) : Int))) := by
      have q : IsRangeIter h₁ s.heap.objs.size (a₀ + ((i + 1 : Nat) : Int) * 1) ((n : Int) - ((i + 1 : Nat) : Int)) 1 := hst₁
      rw [Int.mul_one] at q
      exact q
    have N₁ : News h₀ env.locals h₁ ((s.heap.objs.size, itR (a₀ + ((i + 1 : Nat) : Int)) ((n : Int) - ((i + 1 : Nat) : Int))) :: news') := fun p hp => by
      rcases List.mem_cons.mp hp with rfl | hp
      · exact ⟨hst₁', Ne.symm hIL, hnew⟩
      · exact PyProof.Rows.LCg.news_but N' hk₁ hoff p hp
    refine wpAny_assign_Name (wpAny_passesOwn hE (wpAny_mono (R _ t h₁ tk₁ F₁ N₁) (fun _ s₂ h₂ => wpAny_passesOwn hE (wpAny_mono h₂ (fun f s₃ h₃ => ?_) fun _ _ e => e)) fun _ _ e => e))
    have fin : UnrEnd h₀ env.locals s s.heap.objs.size (itR (a₀ + ((i + 1 : Nat) : Int)) ((n : Int) - ((i + 1 : Nat) : Int))) (TurnsC prog w A E h₀ env x body Q s s.heap.objs.size ((upFrom a₀ n).drop (i + 1))) s₃ → ∃ m, m < n + 1 - i ∧ ∃ h' tk m' news' i, s₃ = { s with heap := h', toks := tk } ∧ IsRangeIter h' s.heap.objs.size (a₀ + (i : Nat) * 1) ((n : Int) - (i : Nat)) 1 ∧ Fr h₀ env.locals h' m' ∧ News h₀ env.locals h' news' ∧ (∀ p ∈ news', p.1 ≠ s.heap.objs.size) ∧
      TurnsC prog w A E h₀ env x body Q s s.heap.objs.size ((upFrom a₀ n).drop i) m' news' ∧ i ≤ n ∧ m = n + 1 - i := by
      rintro ⟨h'', tk'', m'', news'', rfl, F'', N'', ho, r⟩
      refine ⟨n + 1 - (i + 1), by omega, h'', tk'', m'', news'', i + 1, rfl, ?_, F'', fun p hp => N'' p (.tail _ hp), ho, r, hlt, rfl⟩
      have q := (N'' _ (.head _)).1
      show h''.get? s.heap.objs.size = _
      rw [Int.mul_one]
      exact q
    cases f with
    | ret v => exact h₃
    | brk => exact h₃
    | next => exact fin h₃
    | cont => exact fin h₃
  · have hin : i = n := by omega
    subst hin
    have hd : (upFrom a₀ i).drop i = [] := by rw [List.drop_eq_nil_iff, upFrom_len]; exact Nat.le_refl _
    rw [hd] at R
    refine W.done _ _ _ hst fun h₁ tk₁ hk₁ => wpAny_execs_nil ?_
    exact R h₁ tk₁ (PyProof.Rows.LCg.fr_but F' hk₁ hIL hnew) (PyProof.Rows.LCg.news_but N' hk₁ hoff)
end
theorem AllLt.mono {D D' : Addr} {l : List (Addr × Obj)} (h : AllLt D l) (hd : @LE.le Nat _ D D') : AllLt D' l := allLt_of fun p hp => Nat.lt_of_lt_of_le (ktn_ltOf h p hp) hd
end Mine
end
section
open PySem PySem.W PyProof.Rows PySem.Calls PySem.Spec
set_option Elab.async false
set_option maxRecDepth 100000
set_option maxHeartbeats 8000000
namespace Mine
theorem ne_id {D : Addr} {l : List (Addr × Obj)} (h : ∀ p ∈ l, p.1 ≠ D) : ∀ p ∈ l, p.1 ≠ D := h
theorem ne_of_allLt_le {D D' : Addr} {l : List (Addr × Obj)} (h : AllLt D l) (hd : @LE.le Nat _ D D') : ∀ p ∈ l, p.1 ≠ D' := ne_of_allLt (AllLt.mono h hd)
theorem off3_I {I C D : Addr} {l : List (Addr × Obj)} (h : LCg.Off3 I C D l) : ∀ p ∈ l, p.1 ≠ I := fun p hp => (h.mem p hp).1
theorem off3_C {I C D : Addr} {l : List (Addr × Obj)} (h : LCg.Off3 I C D l) : ∀ p ∈ l, p.1 ≠ C := fun p hp => (h.mem p hp).2.1
theorem off3_D {I C D : Addr} {l : List (Addr × Obj)} (h : LCg.Off3 I C D l) : ∀ p ∈ l, p.1 ≠ D := fun p hp => (h.mem p hp).2.2
theorem off1_mem {D : Addr} : ∀ {l : List (Addr × Obj)}, LCg.Off1 D l → ∀ p ∈ l, p.1 ≠ D
  | [], _, _, h => nomatch h
  | _ :: _, x, p, h => by
    rcases List.mem_cons.mp h with rfl | h
    · exact x.1
    · exact off1_mem x.2 p h
def Ne3 (I C D : Addr) : Prop := @Ne Nat I C ∧ @Ne Nat I D ∧ @Ne Nat C D
theorem Ne3.mk' {I C D : Addr} (h : @Ne Nat I C ∧ @Ne Nat I D ∧ @Ne Nat C D) : Ne3 I C D := h
theorem Ne3.ci {I C D : Addr} (h : Ne3 I C D) : @Ne Nat C I := fun e => h.1 e.symm
theorem Ne3.di {I C D : Addr} (h : Ne3 I C D) : @Ne Nat D I := fun e => h.2.1 e.symm
theorem Ne3.dc {I C D : Addr} (h : Ne3 I C D) : @Ne Nat D C := fun e => h.2.2 e.symm
theorem ne_lt {D b : Addr} {o : Obj} {l : List (Addr × Obj)} (h : AllLt D l) (hm : (b, o) ∈ l) : @Ne Nat b D := Nat.ne_of_lt (ktn_ltOf h _ hm)
theorem ne_lt' {D b : Addr} {o : Obj} {l : List (Addr × Obj)} (h : AllLt D l) (hm : (b, o) ∈ l) : @Ne Nat D b := fun e => Nat.ne_of_lt (ktn_ltOf h _ hm) e.symm
theorem tail_lt {D : Addr} {l l' : List (Addr × Obj)} (h : AllLt D l) (hs : ∀ p ∈ l', p ∈ l) : ∀ p ∈ l', p.1 ≠ D := fun p hp => Nat.ne_of_lt (ktn_ltOf h p (hs p hp))
theorem tail_off1 {D : Addr} {l l' : List (Addr × Obj)} (h : LCg.Off1 D l) (hs : ∀ p ∈ l', p ∈ l) : ∀ p ∈ l', p.1 ≠ D := fun p hp => off1_mem h p (hs p hp)
theorem tail_off3I {I C D : Addr} {l l' : List (Addr × Obj)} (h : LCg.Off3 I C D l) (hs : ∀ p ∈ l', p ∈ l) : ∀ p ∈ l', p.1 ≠ I := fun p hp => off3_I h p (hs p hp)
theorem tail_off3C {I C D : Addr} {l l' : List (Addr × Obj)} (h : LCg.Off3 I C D l) (hs : ∀ p ∈ l', p ∈ l) : ∀ p ∈ l', p.1 ≠ C := fun p hp => off3_C h p (hs p hp)
theorem tail_off3D {I C D : Addr} {l l' : List (Addr × Obj)} (h : LCg.Off3 I C D l) (hs : ∀ p ∈ l', p ∈ l) : ∀ p ∈ l', p.1 ≠ D := fun p hp => off3_D h p (hs p hp)
theorem ne_off1 {D b : Addr} {o : Obj} {l : List (Addr × Obj)} (h : LCg.Off1 D l) (hm : (b, o) ∈ l) : @Ne Nat b D := off1_mem h _ hm
theorem ne_off1' {D b : Addr} {o : Obj} {l : List (Addr × Obj)} (h : LCg.Off1 D l) (hm : (b, o) ∈ l) : @Ne Nat D b := fun e => off1_mem h _ hm e.symm
theorem ne_off3I {I C D b : Addr} {o : Obj} {l : List (Addr × Obj)} (h : LCg.Off3 I C D l) (hm : (b, o) ∈ l) : @Ne Nat b I := (h.mem _ hm).1
theorem ne_off3C {I C D b : Addr} {o : Obj} {l : List (Addr × Obj)} (h : LCg.Off3 I C D l) (hm : (b, o) ∈ l) : @Ne Nat b C := (h.mem _ hm).2.1
theorem ne_off3D {I C D b : Addr} {o : Obj} {l : List (Addr × Obj)} (h : LCg.Off3 I C D l) (hm : (b, o) ∈ l) : @Ne Nat b D := (h.mem _ hm).2.2
theorem ne_off3I' {I C D b : Addr} {o : Obj} {l : List (Addr × Obj)} (h : LCg.Off3 I C D l) (hm : (b, o) ∈ l) : @Ne Nat I b := fun e => (h.mem _ hm).1 e.symm
theorem ne_off3C' {I C D b : Addr} {o : Obj} {l : List (Addr × Obj)} (h : LCg.Off3 I C D l) (hm : (b, o) ∈ l) : @Ne Nat C b := fun e => (h.mem _ hm).2.1 e.symm
theorem ne_off3D' {I C D b : Addr} {o : Obj} {l : List (Addr × Obj)} (h : LCg.Off3 I C D l) (hm : (b, o) ∈ l) : @Ne Nat D b := fun e => (h.mem _ hm).2.2 e.symm
theorem comp_keep {h₀ : Heap} {L I C D : Addr} {m : Str → Option Value} {s₁ : Shared} {oI oC oD : Obj} {S : List (Addr × Obj) → Prop} {rest : Value → List (Addr × Obj) → Prop} {a : Addr} {o : Obj} {h' : Heap} {tk : Nat} {all tail : List (Addr × Obj)}
    (F : Fr h₀ L h' m) (N : News h₀ L h' all) (O : LCg.Off3 I C D tail) (hk : (a, o) ∈ all) (h1 : @Ne Nat a I) (h2 : @Ne Nat a C) (h3 : @Ne Nat a D) (hs : ∀ p ∈ (I, oI) :: (C, oC) :: (D, oD) :: tail, p ∈ all) (hS : S ((a, o) :: tail)) (r : rest (.ref a) ((a, o) :: tail)) :
    LCg.CompEnd h₀ L m s₁ I oI C oC D oD S rest (.ref a) { s₁ with heap := h', toks := tk } :=
  LCg.CompEnd.intro F N ((a, o) :: tail) (fun p hp => by
    rcases List.mem_cons.mp hp with rfl | hp
    · exact hs _ (.head _)
    · rcases List.mem_cons.mp hp with rfl | hp
      · exact hs _ (.tail _ (.head _))
      · rcases List.mem_cons.mp hp with rfl | hp
        · exact hs _ (.tail _ (.tail _ (.head _)))
        · rcases List.mem_cons.mp hp with rfl | hp
          · exact hk
          · exact hs _ (.tail _ (.tail _ (.tail _ hp)))) ⟨⟨h1, h2, h3⟩, O⟩ hS r
theorem unr_keep {h₀ : Heap} {L : Addr} {s₁ : Shared} {I : Addr} {it : Obj} {rest : (Str → Option Value) → List (Addr × Obj) → Prop} {h' : Heap} {tk : Nat} {m' : Str → Option Value} {all tail : List (Addr × Obj)} {a : Addr} {o : Obj}
    (F : Fr h₀ L h' m') (N : News h₀ L h' all) (hs : ∀ p ∈ (I, it) :: tail, p ∈ all) (hk : (a, o) ∈ all) (h1 : @Ne Nat a I) (off : ∀ p ∈ tail, p.1 ≠ I) (r : rest m' ((a, o) :: tail)) : UnrEnd h₀ L s₁ I it rest { s₁ with heap := h', toks := tk } :=
  UnrEnd.intro F N ((a, o) :: tail) (fun p hp => by
    rcases List.mem_cons.mp hp with rfl | hp
    · exact hs _ (.head _)
    · rcases List.mem_cons.mp hp with rfl | hp
      · exact hk
      · exact hs _ (.tail _ hp)) (fun p hp => by
    rcases List.mem_cons.mp hp with rfl | hp
    · exact h1
    · exact off p hp) r
theorem mem_step {α : Type} {l l' : List α} {a : α} (h : ∀ p ∈ l, p ∈ l') : ∀ p ∈ l, p ∈ a :: l' := fun p hp => .tail _ (h p hp)
theorem mem_same {α : Type} {l : List α} : ∀ p ∈ l, p ∈ l := fun _ h => h
theorem words11_0 : True := by
  k_with_none
  k_with "execs cons" => first | (k_here; k_gentoks) | ((with_reducible refine wpAny_execs_cons ?_); k_fold)
  k_with "k_mem" => ((repeat' (first | (with_reducible exact mq0) | ktr_member | (with_reducible exact mq1) | (with_reducible exact mq2) | (with_reducible exact mq3) | (with_reducible exact mq4) | (with_reducible exact mq5) | (with_reducible exact mq6) | (with_reducible exact mq7) | (with_reducible exact mq8) | (with_reducible exact mq9) | (with_reducible refine mqt ?_))); done)
  k_with "mul_fits" => exact Fit.mul (by assumption) (by assumption)
  k_with "k_ne" => first | (with_reducible refine' neN ?oa_w11; (case oa_w11 => with_reducible assumption)) | (refine' ne_symN ?oa_w11; (case oa_w11 => with_reducible assumption)) | (refine' nsl1 ?oa_w11; (case oa_w11 => repeat' (first | exact Nat.le_refl _ | refine Nat.le_succ_of_le ?_))) | (refine' nsr1 ?oa_w11; (case oa_w11 => repeat' (first | exact Nat.le_refl _ | refine Nat.le_succ_of_le ?_))) | (refine' Ne3.ci ?oa_w11; (case oa_w11 => with_reducible assumption)) | (refine' Ne3.di ?oa_w11; (case oa_w11 => with_reducible assumption)) | (refine' Ne3.dc ?oa_w11; (case oa_w11 => with_reducible assumption)) | (refine' ne_lt ?oa_w11 ?ob_w11; (case oa_w11 => with_reducible assumption); (case ob_w11 => k_mem)) | (refine' ne_lt' ?oa_w11 ?ob_w11; (case oa_w11 => with_reducible assumption); (case ob_w11 => k_mem)) | (refine' ne_off1 ?oa_w11 ?ob_w11; (case oa_w11 => with_reducible assumption); (case ob_w11 => k_mem)) | (refine' ne_off1' ?oa_w11 ?ob_w11; (case oa_w11 => with_reducible assumption); (case ob_w11 => k_mem)) | (refine' ne_off3I ?oa_w11 ?ob_w11; (case oa_w11 => with_reducible assumption); (case ob_w11 => k_mem)) | (refine' ne_off3C ?oa_w11 ?ob_w11; (case oa_w11 => with_reducible assumption); (case ob_w11 => k_mem)) | (refine' ne_off3D ?oa_w11 ?ob_w11; (case oa_w11 => with_reducible assumption); (case ob_w11 => k_mem)) | (refine' ne_off3I' ?oa_w11 ?ob_w11; (case oa_w11 => with_reducible assumption); (case ob_w11 => k_mem)) | (refine' ne_off3C' ?oa_w11 ?ob_w11; (case oa_w11 => with_reducible assumption); (case ob_w11 => k_mem)) | (refine' ne_off3D' ?oa_w11 ?ob_w11; (case oa_w11 => with_reducible assumption); (case ob_w11 => k_mem)) | ((refine neN ?_); (try dsimp only); first | (with_reducible assumption) | (refine' ne_symN ?oa_w11; (case oa_w11 => with_reducible assumption)) | (refine' nsl1 ?oa_w11; (case oa_w11 => repeat' (first | exact Nat.le_refl _ | refine Nat.le_succ_of_le ?_))) | (refine' nsr1 ?oa_w11; (case oa_w11 => repeat' (first | exact Nat.le_refl _ | refine Nat.le_succ_of_le ?_))) | (refine' Ne3.ci ?oa_w11; (case oa_w11 => with_reducible assumption)) | (refine' Ne3.di ?oa_w11; (case oa_w11 => with_reducible assumption)) | (refine' Ne3.dc ?oa_w11; (case oa_w11 => with_reducible assumption)) | (refine' ne_lt ?oa_w11 ?ob_w11; (case oa_w11 => with_reducible assumption); (case ob_w11 => k_mem)) | (refine' ne_lt' ?oa_w11 ?ob_w11; (case oa_w11 => with_reducible assumption); (case ob_w11 => k_mem)) | (refine' ne_off1 ?oa_w11 ?ob_w11; (case oa_w11 => with_reducible assumption); (case ob_w11 => k_mem)) | (refine' ne_off1' ?oa_w11 ?ob_w11; (case oa_w11 => with_reducible assumption); (case ob_w11 => k_mem)) | (refine' ne_off3I ?oa_w11 ?ob_w11; (case oa_w11 => with_reducible assumption); (case ob_w11 => k_mem)) | (refine' ne_off3C ?oa_w11 ?ob_w11; (case oa_w11 => with_reducible assumption); (case ob_w11 => k_mem)) | (refine' ne_off3D ?oa_w11 ?ob_w11; (case oa_w11 => with_reducible assumption); (case ob_w11 => k_mem)) | (refine' ne_off3I' ?oa_w11 ?ob_w11; (case oa_w11 => with_reducible assumption); (case ob_w11 => k_mem)) | (refine' ne_off3C' ?oa_w11 ?ob_w11; (case oa_w11 => with_reducible assumption); (case ob_w11 => k_mem)) | (refine' ne_off3D' ?oa_w11 ?ob_w11; (case oa_w11 => with_reducible assumption); (case ob_w11 => k_mem)) | omega)
  k_with "k_all" => ((repeat' (first | (with_reducible refine' ne_cons ?_ ?_) | (with_reducible refine' List.forall_mem_cons.mpr ⟨?_, ?_⟩) | exact List.forall_mem_nil _ | (refine' ne_id ?oa_w12; (case oa_w12 => with_reducible assumption)) | (refine' tail_lt ?oa_w12 ?ob_w12; (case oa_w12 => with_reducible assumption); (case ob_w12 => kcj_all)) | (refine' tail_off1 ?oa_w12 ?ob_w12; (case oa_w12 => with_reducible assumption); (case ob_w12 => kcj_all)) | (refine' tail_off3I ?oa_w12 ?ob_w12; (case oa_w12 => with_reducible assumption); (case ob_w12 => kcj_all)) | (refine' tail_off3C ?oa_w12 ?ob_w12; (case oa_w12 => with_reducible assumption); (case ob_w12 => kcj_all)) | (refine' tail_off3D ?oa_w12 ?ob_w12; (case oa_w12 => with_reducible assumption); (case ob_w12 => kcj_all)) | (refine' ne_of_allLt_le ?oa_w12 ?ob_w12; (case oa_w12 => with_reducible assumption); (case ob_w12 => omega)) | k_ne)); done)
  k_with "k_upd" => ((repeat' (first | (with_reducible refine' Del.head ?_) | (with_reducible refine' Del.tail ?_ ?_) | (with_reducible refine' Upd.head ?_) | (with_reducible refine' Upd.tail ?_ ?_) | (with_reducible refine' UpdF.head ?_) | (with_reducible refine' UpdF.tail ?_ ?_) | k_all | k_ne)); done)
  k_with "kcj_all" => ((repeat' (first | (with_reducible exact mem_same) | exact List.forall_mem_nil _ | (with_reducible refine' sub_cons ?_ ?_) | (with_reducible refine' List.forall_mem_cons.mpr ⟨?_, ?_⟩) | (with_reducible refine' mem_step ?_) | k_mem)); done)
  trivial
theorem AllLt.sub {D : Addr} {l l' : List (Addr × Obj)} (h : AllLt D l) (hs : ∀ p ∈ l', p ∈ l) : AllLt D l' := allLt_of fun p hp => ktn_ltOf h p (hs p hp)
theorem ne_of_allLt_sub {D : Addr} {l l' : List (Addr × Obj)} (h : AllLt D l) (hs : ∀ p ∈ l', p ∈ l) : ∀ p ∈ l', p.1 ≠ D := ne_of_allLt (AllLt.sub h hs)
inductive Del (I : Addr) (it : Obj) : List (Addr × Obj) → List (Addr × Obj) → Prop
  | head {r} : (∀ p ∈ r, p.1 ≠ I) → Del I it ((I, it) :: r) r
  | tail {p r r'} : p.1 ≠ I → Del I it r r' → Del I it (p :: r) (p :: r')
theorem Del.facts {I : Addr} {it : Obj} : ∀ {l l' : List (Addr × Obj)}, Del I it l l' → (I, it) ∈ l ∧ (∀ p ∈ l', p ∈ l) ∧ ∀ p ∈ l', p.1 ≠ I
  | _, _, .head h => ⟨.head _, fun p hp => .tail _ hp, h⟩
  | _, _, .tail (p := q) h r => by
    obtain ⟨a, b, c⟩ := r.facts
    refine ⟨.tail _ a, fun p hp => ?_, fun p hp => ?_⟩
    · rcases List.mem_cons.mp hp with rfl | hp
      · exact .head _
      · exact .tail _ (b p hp)
    · rcases List.mem_cons.mp hp with rfl | hp
      · exact h
      · exact c p hp
theorem unr_end {h₀ : Heap} {L : Addr} {s₁ : Shared} {I : Addr} {it : Obj} {rest : (Str → Option Value) → List (Addr × Obj) → Prop} {h' : Heap} {tk : Nat} {m' : Str → Option Value} {all news' : List (Addr × Obj)}
    (F : Fr h₀ L h' m') (N : News h₀ L h' all) (D : Del I it all news') (r : rest m' news') : UnrEnd h₀ L s₁ I it rest { s₁ with heap := h', toks := tk } :=
  let ⟨a, b, c⟩ := D.facts
  UnrEnd.intro F N news' (fun p hp => by
    rcases List.mem_cons.mp hp with rfl | hp
    · exact a
    · exact b p hp) c r
theorem rat_ret {h₀ h' : Heap} {L : Addr} {m : Str → Option Value} {s : Shared} {Q : Value → Shared → Prop} {news all : List (Addr × Obj)} {n d n' d' : Int} {u1 u2 c : Nat} {D : Addr} {tk : Nat}
    (hret : ∀ r news' h' tk', Fr h₀ L h' m → News h₀ L h' news' → RatPost n d news news' r → Q r { s with heap := h', toks := tk' })
    (F : Fr h₀ L h' m) (N : News h₀ L h' all) (hm : (D, tup2 n' u1 d' u2 c) ∈ all) (hs : ∀ p ∈ news, p ∈ all) (hl : AllLt D news) (e1 : n' = n) (e2 : d' = d) : Q (.ref D) { s with heap := h', toks := tk } :=
  hret _ ((D, tup2 n' u1 d' u2 c) :: news) _ _ F (fun p hp => by
    rcases List.mem_cons.mp hp with rfl | hp
    · exact N _ hm
    · exact N p (hs p hp)) (ratPost_end e1 e2 hl)
theorem words11_1 : True := by
  k_with "call ref" => (k_here; (with_reducible show wpAny _ _ (call (Value.ref 74) _) _ _ _); k_dflt (refine' sum_use ?k1_w15 ?k2_w15 ?k3_w15 ?k4_w15 ?k5_w15 ?kK_w15 ?kd_w15 ?ku_w15 ?g_w15 ?hx_w15 ?hy_w15 ?i1_w15 ?i2_w15 ?i3_w15 ?i4_w15 ?hp_w15 ?hq_w15 ?hs_w15 ?_; (case k1_w15 => k_asm); (case k2_w15 => k_asm); (case k3_w15 => k_asm); (case k4_w15 => k_asm); (case k5_w15 => k_asm); (case kK_w15 => first | exact rfl | assumption); (case kd_w15 => ktr_room); (case ku_w15 => ktr_units); (case g_w15 => assumption); (case hx_w15 => k_mem); (case hy_w15 => k_mem); (case i1_w15 => first | exact rfl | exact num0 | exact num1); (case i2_w15 => first | exact rfl | exact den0 | exact den1); (case i3_w15 => first | exact rfl | exact num0 | exact num1); (case i4_w15 => first | exact rfl | exact den0 | exact den1); (case hp_w15 => first | (with_reducible assumption) | exact Sz.zero | exact Sz.one); (case hq_w15 => first | (with_reducible assumption) | exact Sz.zero | exact Sz.one); (case hs_w15 => omega); k_whole); intro D'_w15 u1'_w15 u2'_w15 c'_w15 h'_w15 tk'_w15 F'_w15 N'_w15 l1'_w15 sz'_w15; (try dsimp only); (try k_fold))
  k_with "call ref" => (k_here; (with_reducible show wpAny _ _ (call (Value.ref 81) _) _ _ _); k_dflt (refine' diff_use ?k1_w16 ?k2_w16 ?k3_w16 ?k4_w16 ?k5_w16 ?kK_w16 ?kd_w16 ?ku_w16 ?g_w16 ?hx_w16 ?hy_w16 ?i1_w16 ?i2_w16 ?i3_w16 ?i4_w16 ?hp_w16 ?hq_w16 ?hs_w16 ?_; (case k1_w16 => k_asm); (case k2_w16 => k_asm); (case k3_w16 => k_asm); (case k4_w16 => k_asm); (case k5_w16 => k_asm); (case kK_w16 => first | exact rfl | assumption); (case kd_w16 => ktr_room); (case ku_w16 => ktr_units); (case g_w16 => assumption); (case hx_w16 => k_mem); (case hy_w16 => k_mem); (case i1_w16 => first | exact rfl | exact num0 | exact num1); (case i2_w16 => first | exact rfl | exact den0 | exact den1); (case i3_w16 => first | exact rfl | exact num0 | exact num1); (case i4_w16 => first | exact rfl | exact den0 | exact den1); (case hp_w16 => first | (with_reducible assumption) | exact Sz.zero | exact Sz.one); (case hq_w16 => first | (with_reducible assumption) | exact Sz.zero | exact Sz.one); (case hs_w16 => omega); k_whole); intro D'_w16 u1'_w16 u2'_w16 c'_w16 h'_w16 tk'_w16 F'_w16 N'_w16 l1'_w16 sz'_w16; (try dsimp only); (try k_fold))
  k_with "call ref" => (k_here; (with_reducible show wpAny _ _ (call (Value.ref 88) _) _ _ _); k_dflt (refine' prod_use ?k1_w17 ?k2_w17 ?k3_w17 ?k4_w17 ?k5_w17 ?kK_w17 ?kd_w17 ?ku_w17 ?g_w17 ?hx_w17 ?hy_w17 ?i1_w17 ?i2_w17 ?i3_w17 ?i4_w17 ?hp_w17 ?hq_w17 ?hs_w17 ?_; (case k1_w17 => k_asm); (case k2_w17 => k_asm); (case k3_w17 => k_asm); (case k4_w17 => k_asm); (case k5_w17 => k_asm); (case kK_w17 => first | exact rfl | assumption); (case kd_w17 => ktr_room); (case ku_w17 => ktr_units); (case g_w17 => assumption); (case hx_w17 => k_mem); (case hy_w17 => k_mem); (case i1_w17 => first | exact rfl | exact num0 | exact num1); (case i2_w17 => first | exact rfl | exact den0 | exact den1); (case i3_w17 => first | exact rfl | exact num0 | exact num1); (case i4_w17 => first | exact rfl | exact den0 | exact den1); (case hp_w17 => first | (with_reducible assumption) | exact Sz.zero | exact Sz.one); (case hq_w17 => first | (with_reducible assumption) | exact Sz.zero | exact Sz.one); (case hs_w17 => omega); k_whole); intro D'_w17 u1'_w17 u2'_w17 c'_w17 h'_w17 tk'_w17 F'_w17 N'_w17 l1'_w17 sz'_w17; (try dsimp only); (try k_fold))
  k_with "call ref" => (k_here; (with_reducible show wpAny _ _ (call (Value.ref 95) _) _ _ _); k_dflt (refine' quot_use ?k1_w18 ?k2_w18 ?k3_w18 ?k4_w18 ?k5_w18 ?kK_w18 ?kd_w18 ?ku_w18 ?g_w18 ?hx_w18 ?hy_w18 ?i1_w18 ?i2_w18 ?i3_w18 ?i4_w18 ?hp_w18 ?hq_w18 ?hs_w18 ?hn_w18 ?_; (case k1_w18 => k_asm); (case k2_w18 => k_asm); (case k3_w18 => k_asm); (case k4_w18 => k_asm); (case k5_w18 => k_asm); (case kK_w18 => first | exact rfl | assumption); (case kd_w18 => ktr_room); (case ku_w18 => ktr_units); (case g_w18 => assumption); (case hx_w18 => k_mem); (case hy_w18 => k_mem); (case i1_w18 => first | exact rfl | exact num0 | exact num1); (case i2_w18 => first | exact rfl | exact den0 | exact den1); (case i3_w18 => first | exact rfl | exact num0 | exact num1); (case i4_w18 => first | exact rfl | exact den0 | exact den1); (case hp_w18 => first | (with_reducible assumption) | exact Sz.zero | exact Sz.one); (case hq_w18 => first | (with_reducible assumption) | exact Sz.zero | exact Sz.one); (case hs_w18 => omega); (case hn_w18 => assumption); k_whole); intro D'_w18 u1'_w18 u2'_w18 c'_w18 h'_w18 tk'_w18 F'_w18 N'_w18 l1'_w18 sz'_w18; (try dsimp only); (try k_fold))
  k_with "call ref" => (k_here; (with_reducible show wpAny _ _ (call (Value.ref 102) _) _ _ _); k_dflt (refine' neg_use ?k1_w19 ?k2_w19 ?k3_w19 ?k4_w19 ?k5_w19 ?kK_w19 ?kd_w19 ?ku_w19 ?hx_w19 ?i1_w19 ?i2_w19 ?hp_w19 ?_; (case k1_w19 => k_asm); (case k2_w19 => k_asm); (case k3_w19 => k_asm); (case k4_w19 => k_asm); (case k5_w19 => k_asm); (case kK_w19 => first | exact rfl | assumption); (case kd_w19 => ktr_room); (case ku_w19 => ktr_units); (case hx_w19 => k_mem); (case i1_w19 => first | exact rfl | exact num0 | exact num1); (case i2_w19 => first | exact rfl | exact den0 | exact den1); (case hp_w19 => first | (with_reducible assumption) | exact Sz.zero | exact Sz.one); k_whole); intro D'_w19 u1'_w19 u2'_w19 c'_w19 h'_w19 tk'_w19 F'_w19 N'_w19 l1'_w19 sz'_w19; (try dsimp only); (try k_fold))
  k_with "call ref" => (k_here; (with_reducible show wpAny _ _ (call (Value.ref 116) _) _ _ _); k_dflt (refine' order_use ?k1_w20 ?k2_w20 ?k3_w20 ?k4_w20 ?k5_w20 ?kK_w20 ?kd_w20 ?ku_w20 ?hx_w20 ?hy_w20 ?i1_w20 ?i2_w20 ?i3_w20 ?i4_w20 ?hp_w20 ?hq_w20 ?hs_w20 ?_; (case k1_w20 => k_asm); (case k2_w20 => k_asm); (case k3_w20 => k_asm); (case k4_w20 => k_asm); (case k5_w20 => k_asm); (case kK_w20 => first | exact rfl | assumption); (case kd_w20 => ktr_room); (case ku_w20 => ktr_units); (case hx_w20 => k_mem); (case hy_w20 => k_mem); (case i1_w20 => first | exact rfl | exact num0 | exact num1); (case i2_w20 => first | exact rfl | exact den0 | exact den1); (case i3_w20 => first | exact rfl | exact num0 | exact num1); (case i4_w20 => first | exact rfl | exact den0 | exact den1); (case hp_w20 => first | (with_reducible assumption) | exact Sz.zero | exact Sz.one); (case hq_w20 => first | (with_reducible assumption) | exact Sz.zero | exact Sz.one); (case hs_w20 => omega); k_whole); intro u'_w20 h'_w20 tk'_w20 F'_w20 N'_w20; (try dsimp only); (try k_fold))
  trivial

theorem pow_small {p : Rat} (h1 : (p.den : Int) = 1) : p.num ^ (2 - (2:Int).fmod 2).toNat = (p * p).num ∧ (1 : Int) = (p * p).den := by
  have e : (2 - (2:Int).fmod 2).toNat = 2 := by decide
  rw [e]
  have hd : p.den = 1 := by omega
  constructor
  · rw [Rat.num_mul, hd]; simp [Int.pow_succ]
  · rw [Rat.den_mul, hd]; simp
theorem power_does (w : World) (mean : ExcName → Option Value) (mg mb : Str → Option Value) (G : Great mg) (news : List (Addr × Obj)) (x : Addr) (p : Rat) (e : Nat) (n1 d1 : Int) (t1 t2 t3 : Tok) (c1 : Nat)
    (i1 : n1 = p.num) (i2 : d1 = p.den) (hx : (x, tup2 n1 t1 d1 t2 c1) ∈ news) (hp : Sz e p) (hs : 2 * e + 1 ≤ 2300) :
    Does w mean mg mb 4 109 news [.ref x, .int 2 t3] (RatPost (p * p).num (p * p).den news) := by
  subst i1 i2
  intro dp un gd cn cs a ccd cl outer A₀ base h₀ L m s Q E B F X N T hk hd hu hret
  refine wpAny_call ?_
  k_dflt ktr_enter
  k_steps
  all_goals ((refine' rat_ret hret ?eF ?eN ?em ?es ?el ?_ ?_; (case eF => k_asm); (case eN => k_asm); (case em => k_mem); (case es => kcj_all); (case el => first | assumption | exact allLt_of (by assumption) | (refine' AllLt.sub ?oa ?ob; (case oa => assumption); (case ob => kcj_all)))))
  all_goals first | exact rfl | exact (pow_small (by assumption)).1 | exact (pow_small (p := p) (by assumption)).2 | rw [Rat.one_mul]
end Mine
end
section
open PySem PySem.W PyProof.Rows PySem.Calls PySem.Spec
set_option Elab.async false
set_option maxRecDepth 100000
set_option maxHeartbeats 8000000
namespace Mine
theorem words13_0 : True := by
  k_with_none
  k_with "execs cons" => first | (k_here; k_gentoks) | ((with_reducible refine wpAny_execs_cons ?_); k_fold)
  k_with "k_mem" => ((repeat' (first | (with_reducible exact mq0) | ktr_member | (with_reducible exact mq1) | (with_reducible exact mq2) | (with_reducible exact mq3) | (with_reducible exact mq4) | (with_reducible exact mq5) | (with_reducible exact mq6) | (with_reducible exact mq7) | (with_reducible exact mq8) | (with_reducible exact mq9) | (with_reducible refine mqt ?_))); done)
  k_with "mul_fits" => exact Fit.mul (by assumption) (by assumption)
  k_with "k_ne" => first | (with_reducible refine' neN ?oa_w11; (case oa_w11 => with_reducible assumption)) | (refine' ne_symN ?oa_w11; (case oa_w11 => with_reducible assumption)) | (refine' nsl1 ?oa_w11; (case oa_w11 => repeat' (first | exact Nat.le_refl _ | refine Nat.le_succ_of_le ?_))) | (refine' nsr1 ?oa_w11; (case oa_w11 => repeat' (first | exact Nat.le_refl _ | refine Nat.le_succ_of_le ?_))) | (refine' Ne3.ci ?oa_w11; (case oa_w11 => with_reducible assumption)) | (refine' Ne3.di ?oa_w11; (case oa_w11 => with_reducible assumption)) | (refine' Ne3.dc ?oa_w11; (case oa_w11 => with_reducible assumption)) | (refine' ne_lt ?oa_w11 ?ob_w11; (case oa_w11 => with_reducible assumption); (case ob_w11 => k_mem)) | (refine' ne_lt' ?oa_w11 ?ob_w11; (case oa_w11 => with_reducible assumption); (case ob_w11 => k_mem)) | (refine' ne_off1 ?oa_w11 ?ob_w11; (case oa_w11 => with_reducible assumption); (case ob_w11 => k_mem)) | (refine' ne_off1' ?oa_w11 ?ob_w11; (case oa_w11 => with_reducible assumption); (case ob_w11 => k_mem)) | (refine' ne_off3I ?oa_w11 ?ob_w11; (case oa_w11 => with_reducible assumption); (case ob_w11 => k_mem)) | (refine' ne_off3C ?oa_w11 ?ob_w11; (case oa_w11 => with_reducible assumption); (case ob_w11 => k_mem)) | (refine' ne_off3D ?oa_w11 ?ob_w11; (case oa_w11 => with_reducible assumption); (case ob_w11 => k_mem)) | (refine' ne_off3I' ?oa_w11 ?ob_w11; (case oa_w11 => with_reducible assumption); (case ob_w11 => k_mem)) | (refine' ne_off3C' ?oa_w11 ?ob_w11; (case oa_w11 => with_reducible assumption); (case ob_w11 => k_mem)) | (refine' ne_off3D' ?oa_w11 ?ob_w11; (case oa_w11 => with_reducible assumption); (case ob_w11 => k_mem)) | ((refine neN ?_); (try dsimp only); first | (with_reducible assumption) | (refine' ne_symN ?oa_w11; (case oa_w11 => with_reducible assumption)) | (refine' nsl1 ?oa_w11; (case oa_w11 => repeat' (first | exact Nat.le_refl _ | refine Nat.le_succ_of_le ?_))) | (refine' nsr1 ?oa_w11; (case oa_w11 => repeat' (first | exact Nat.le_refl _ | refine Nat.le_succ_of_le ?_))) | (refine' Ne3.ci ?oa_w11; (case oa_w11 => with_reducible assumption)) | (refine' Ne3.di ?oa_w11; (case oa_w11 => with_reducible assumption)) | (refine' Ne3.dc ?oa_w11; (case oa_w11 => with_reducible assumption)) | (refine' ne_lt ?oa_w11 ?ob_w11; (case oa_w11 => with_reducible assumption); (case ob_w11 => k_mem)) | (refine' ne_lt' ?oa_w11 ?ob_w11; (case oa_w11 => with_reducible assumption); (case ob_w11 => k_mem)) | (refine' ne_off1 ?oa_w11 ?ob_w11; (case oa_w11 => with_reducible assumption); (case ob_w11 => k_mem)) | (refine' ne_off1' ?oa_w11 ?ob_w11; (case oa_w11 => with_reducible assumption); (case ob_w11 => k_mem)) | (refine' ne_off3I ?oa_w11 ?ob_w11; (case oa_w11 => with_reducible assumption); (case ob_w11 => k_mem)) | (refine' ne_off3C ?oa_w11 ?ob_w11; (case oa_w11 => with_reducible assumption); (case ob_w11 => k_mem)) | (refine' ne_off3D ?oa_w11 ?ob_w11; (case oa_w11 => with_reducible assumption); (case ob_w11 => k_mem)) | (refine' ne_off3I' ?oa_w11 ?ob_w11; (case oa_w11 => with_reducible assumption); (case ob_w11 => k_mem)) | (refine' ne_off3C' ?oa_w11 ?ob_w11; (case oa_w11 => with_reducible assumption); (case ob_w11 => k_mem)) | (refine' ne_off3D' ?oa_w11 ?ob_w11; (case oa_w11 => with_reducible assumption); (case ob_w11 => k_mem)) | omega)
  k_with "k_all" => ((repeat' (first | (with_reducible refine' ne_cons ?_ ?_) | (with_reducible refine' List.forall_mem_cons.mpr ⟨?_, ?_⟩) | exact List.forall_mem_nil _ | (refine' ne_id ?oa_w12; (case oa_w12 => with_reducible assumption)) | (refine' tail_lt ?oa_w12 ?ob_w12; (case oa_w12 => with_reducible assumption); (case ob_w12 => kcj_all)) | (refine' tail_off1 ?oa_w12 ?ob_w12; (case oa_w12 => with_reducible assumption); (case ob_w12 => kcj_all)) | (refine' tail_off3I ?oa_w12 ?ob_w12; (case oa_w12 => with_reducible assumption); (case ob_w12 => kcj_all)) | (refine' tail_off3C ?oa_w12 ?ob_w12; (case oa_w12 => with_reducible assumption); (case ob_w12 => kcj_all)) | (refine' tail_off3D ?oa_w12 ?ob_w12; (case oa_w12 => with_reducible assumption); (case ob_w12 => kcj_all)) | (refine' ne_of_allLt_le ?oa_w12 ?ob_w12; (case oa_w12 => with_reducible assumption); (case ob_w12 => omega)) | k_ne)); done)
  k_with "k_upd" => ((repeat' (first | (with_reducible refine' Del.head ?_) | (with_reducible refine' Del.tail ?_ ?_) | (with_reducible refine' Upd.head ?_) | (with_reducible refine' Upd.tail ?_ ?_) | (with_reducible refine' UpdF.head ?_) | (with_reducible refine' UpdF.tail ?_ ?_) | k_all | k_ne)); done)
  k_with "kcj_all" => ((repeat' (first | (with_reducible exact mem_same) | exact List.forall_mem_nil _ | (with_reducible refine' sub_cons ?_ ?_) | (with_reducible refine' List.forall_mem_cons.mpr ⟨?_, ?_⟩) | (with_reducible refine' mem_step ?_) | k_mem)); done)
  k_with "exec For Name Name cons nil" => (k_here; (rename Fr _ _ _ _ => lF'_w21); (with_unfolding_all refine' For_invVF lF'_w21 ?k1_w21 ?k2_w21 ?_; (case k1_w21 => exact rfl); (case k2_w21 => exact rfl); k_whole); l_hasStore)
  k_with "pyIter ref" => ((with_reducible show wpAny _ _ (pyIter (Value.ref _)) (fun it s₂ => LoopAtV _ _ _ _ _ _ _ _ _ it s₂) _ _); (rename Fr _ _ _ _ => lF'_w22); (rename News _ _ _ _ => lN'_w22); (with_unfolding_all refine' iter_listUnr ?hh_w22 lF'_w22 lN'_w22 ?hm_w22 ?hc_w22 ?hd_w22 ?_; (case hh_w22 => exact rfl); (case hm_w22 => k_mem); (case hc_w22 => exact rfl); (case hd_w22 => exact rfl)); clear lF'_w22 lN'_w22; intro i'_w22 l1_w22; (have l1'_w22 := allLt_of l1_w22); clear l1_w22)
  k_with "UnrEnd" => (k_here; k_dflt (refine' unr_end ?F_w23 ?N_w23 ?D_w23 ?_; (case F_w23 => k_asm); (case N_w23 => k_asm); (case D_w23 => k_upd)); (try (refine ⟨by k_mem, ?_⟩)))
  k_with "call ref" => (k_here; (with_reducible show wpAny _ _ (call (Value.ref 74) _) _ _ _); k_dflt (refine' sum_use ?k1_w15 ?k2_w15 ?k3_w15 ?k4_w15 ?k5_w15 ?kK_w15 ?kd_w15 ?ku_w15 ?g_w15 ?hx_w15 ?hy_w15 ?i1_w15 ?i2_w15 ?i3_w15 ?i4_w15 ?hp_w15 ?hq_w15 ?hs_w15 ?_; (case k1_w15 => k_asm); (case k2_w15 => k_asm); (case k3_w15 => k_asm); (case k4_w15 => k_asm); (case k5_w15 => k_asm); (case kK_w15 => first | exact rfl | assumption); (case kd_w15 => ktr_room); (case ku_w15 => ktr_units); (case g_w15 => assumption); (case hx_w15 => k_mem); (case hy_w15 => k_mem); (case i1_w15 => first | exact rfl | exact num0 | exact num1); (case i2_w15 => first | exact rfl | exact den0 | exact den1); (case i3_w15 => first | exact rfl | exact num0 | exact num1); (case i4_w15 => first | exact rfl | exact den0 | exact den1); (case hp_w15 => first | (with_reducible assumption) | exact Sz.zero | exact Sz.one); (case hq_w15 => first | (with_reducible assumption) | exact Sz.zero | exact Sz.one); (case hs_w15 => omega); k_whole); intro D'_w15 u1'_w15 u2'_w15 c'_w15 h'_w15 tk'_w15 F'_w15 N'_w15 l1'_w15 sz'_w15; (try dsimp only); (try k_fold))
  k_with "call ref" => (k_here; (with_reducible show wpAny _ _ (call (Value.ref 81) _) _ _ _); k_dflt (refine' diff_use ?k1_w16 ?k2_w16 ?k3_w16 ?k4_w16 ?k5_w16 ?kK_w16 ?kd_w16 ?ku_w16 ?g_w16 ?hx_w16 ?hy_w16 ?i1_w16 ?i2_w16 ?i3_w16 ?i4_w16 ?hp_w16 ?hq_w16 ?hs_w16 ?_; (case k1_w16 => k_asm); (case k2_w16 => k_asm); (case k3_w16 => k_asm); (case k4_w16 => k_asm); (case k5_w16 => k_asm); (case kK_w16 => first | exact rfl | assumption); (case kd_w16 => ktr_room); (case ku_w16 => ktr_units); (case g_w16 => assumption); (case hx_w16 => k_mem); (case hy_w16 => k_mem); (case i1_w16 => first | exact rfl | exact num0 | exact num1); (case i2_w16 => first | exact rfl | exact den0 | exact den1); (case i3_w16 => first | exact rfl | exact num0 | exact num1); (case i4_w16 => first | exact rfl | exact den0 | exact den1); (case hp_w16 => first | (with_reducible assumption) | exact Sz.zero | exact Sz.one); (case hq_w16 => first | (with_reducible assumption) | exact Sz.zero | exact Sz.one); (case hs_w16 => omega); k_whole); intro D'_w16 u1'_w16 u2'_w16 c'_w16 h'_w16 tk'_w16 F'_w16 N'_w16 l1'_w16 sz'_w16; (try dsimp only); (try k_fold))
  k_with "call ref" => (k_here; (with_reducible show wpAny _ _ (call (Value.ref 88) _) _ _ _); k_dflt (refine' prod_use ?k1_w17 ?k2_w17 ?k3_w17 ?k4_w17 ?k5_w17 ?kK_w17 ?kd_w17 ?ku_w17 ?g_w17 ?hx_w17 ?hy_w17 ?i1_w17 ?i2_w17 ?i3_w17 ?i4_w17 ?hp_w17 ?hq_w17 ?hs_w17 ?_; (case k1_w17 => k_asm); (case k2_w17 => k_asm); (case k3_w17 => k_asm); (case k4_w17 => k_asm); (case k5_w17 => k_asm); (case kK_w17 => first | exact rfl | assumption); (case kd_w17 => ktr_room); (case ku_w17 => ktr_units); (case g_w17 => assumption); (case hx_w17 => k_mem); (case hy_w17 => k_mem); (case i1_w17 => first | exact rfl | exact num0 | exact num1); (case i2_w17 => first | exact rfl | exact den0 | exact den1); (case i3_w17 => first | exact rfl | exact num0 | exact num1); (case i4_w17 => first | exact rfl | exact den0 | exact den1); (case hp_w17 => first | (with_reducible assumption) | exact Sz.zero | exact Sz.one); (case hq_w17 => first | (with_reducible assumption) | exact Sz.zero | exact Sz.one); (case hs_w17 => omega); k_whole); intro D'_w17 u1'_w17 u2'_w17 c'_w17 h'_w17 tk'_w17 F'_w17 N'_w17 l1'_w17 sz'_w17; (try dsimp only); (try k_fold))
  k_with "call ref" => (k_here; (with_reducible show wpAny _ _ (call (Value.ref 95) _) _ _ _); k_dflt (refine' quot_use ?k1_w18 ?k2_w18 ?k3_w18 ?k4_w18 ?k5_w18 ?kK_w18 ?kd_w18 ?ku_w18 ?g_w18 ?hx_w18 ?hy_w18 ?i1_w18 ?i2_w18 ?i3_w18 ?i4_w18 ?hp_w18 ?hq_w18 ?hs_w18 ?hn_w18 ?_; (case k1_w18 => k_asm); (case k2_w18 => k_asm); (case k3_w18 => k_asm); (case k4_w18 => k_asm); (case k5_w18 => k_asm); (case kK_w18 => first | exact rfl | assumption); (case kd_w18 => ktr_room); (case ku_w18 => ktr_units); (case g_w18 => assumption); (case hx_w18 => k_mem); (case hy_w18 => k_mem); (case i1_w18 => first | exact rfl | exact num0 | exact num1); (case i2_w18 => first | exact rfl | exact den0 | exact den1); (case i3_w18 => first | exact rfl | exact num0 | exact num1); (case i4_w18 => first | exact rfl | exact den0 | exact den1); (case hp_w18 => first | (with_reducible assumption) | exact Sz.zero | exact Sz.one); (case hq_w18 => first | (with_reducible assumption) | exact Sz.zero | exact Sz.one); (case hs_w18 => omega); (case hn_w18 => assumption); k_whole); intro D'_w18 u1'_w18 u2'_w18 c'_w18 h'_w18 tk'_w18 F'_w18 N'_w18 l1'_w18 sz'_w18; (try dsimp only); (try k_fold))
  k_with "call ref" => (k_here; (with_reducible show wpAny _ _ (call (Value.ref 102) _) _ _ _); k_dflt (refine' neg_use ?k1_w19 ?k2_w19 ?k3_w19 ?k4_w19 ?k5_w19 ?kK_w19 ?kd_w19 ?ku_w19 ?hx_w19 ?i1_w19 ?i2_w19 ?hp_w19 ?_; (case k1_w19 => k_asm); (case k2_w19 => k_asm); (case k3_w19 => k_asm); (case k4_w19 => k_asm); (case k5_w19 => k_asm); (case kK_w19 => first | exact rfl | assumption); (case kd_w19 => ktr_room); (case ku_w19 => ktr_units); (case hx_w19 => k_mem); (case i1_w19 => first | exact rfl | exact num0 | exact num1); (case i2_w19 => first | exact rfl | exact den0 | exact den1); (case hp_w19 => first | (with_reducible assumption) | exact Sz.zero | exact Sz.one); k_whole); intro D'_w19 u1'_w19 u2'_w19 c'_w19 h'_w19 tk'_w19 F'_w19 N'_w19 l1'_w19 sz'_w19; (try dsimp only); (try k_fold))
  k_with "call ref" => (k_here; (with_reducible show wpAny _ _ (call (Value.ref 116) _) _ _ _); k_dflt (refine' order_use ?k1_w20 ?k2_w20 ?k3_w20 ?k4_w20 ?k5_w20 ?kK_w20 ?kd_w20 ?ku_w20 ?hx_w20 ?hy_w20 ?i1_w20 ?i2_w20 ?i3_w20 ?i4_w20 ?hp_w20 ?hq_w20 ?hs_w20 ?_; (case k1_w20 => k_asm); (case k2_w20 => k_asm); (case k3_w20 => k_asm); (case k4_w20 => k_asm); (case k5_w20 => k_asm); (case kK_w20 => first | exact rfl | assumption); (case kd_w20 => ktr_room); (case ku_w20 => ktr_units); (case hx_w20 => k_mem); (case hy_w20 => k_mem); (case i1_w20 => first | exact rfl | exact num0 | exact num1); (case i2_w20 => first | exact rfl | exact den0 | exact den1); (case i3_w20 => first | exact rfl | exact num0 | exact num1); (case i4_w20 => first | exact rfl | exact den0 | exact den1); (case hp_w20 => first | (with_reducible assumption) | exact Sz.zero | exact Sz.one); (case hq_w20 => first | (with_reducible assumption) | exact Sz.zero | exact Sz.one); (case hs_w20 => omega); k_whole); intro u'_w20 h'_w20 tk'_w20 F'_w20 N'_w20; (try dsimp only); (try k_fold))
  trivial
theorem item_led {prog : Program} {w : World} {A : Around} {E : Value → Shared → Prop} {s : Shared} {h₀ : Heap} {L l : Addr} {news : List (Addr × Obj)} {vs : List Value} {n : Nat} {k : Int} {u : Tok} {v : Value} {value slice : PySem.Expr} {Q : Value → Shared → Prop}
    (N : News h₀ L s.heap news) (hm : (l, listObj vs n) ∈ news) (h0 : 0 ≤ k) (hfit : k < 2 ^ 63) (hx : vs[k.toNat]? = some v) (h : Q v s)
    (hs : subscripted slice false (.ref l) (.int k u) = operate [.ref l, .int k u] (getItem (.ref l) (.int k u)) := by with_unfolding_all rfl) :
    wpAny (model prog w) A (subscriptTail value slice (.ref l) (.int k u)) Q E s :=
  have hL := News.isList N hm
  tail_any hL.typeIs slot_list_getitem.lookup (wpAny_getItem_list hL h0 hfit (by simpa using hx) h) hs
theorem getItem_led {prog : Program} {w : World} {A : Around} {E : Value → Shared → Prop} {s : Shared} {h₀ : Heap} {L l : Addr} {news : List (Addr × Obj)} {vs : List Value} {n : Nat} {k : Int} {u : Tok} {v : Value} {Q : Value → Shared → Prop}
    (N : News h₀ L s.heap news) (hm : (l, listObj vs n) ∈ news) (h0 : 0 ≤ k) (hfit : k < 2 ^ 63) (hx : vs[k.toNat]? = some v) (h : Q v s) :
    wpAny (model prog w) A (getItem (.ref l) (.int k u)) Q E s :=
  wpAny_getItem_list (News.isList N hm) h0 hfit (by simpa using hx) h
theorem words13_1 : True := by
  k_with "subscriptTail" => (k_here; (with_reducible show wpAny _ _ (subscriptTail _ _ (Value.ref _) (Value.int _ _)) _ _ _); k_dflt (refine' item_led ?N_w24 ?m_w24 ?a_w24 ?b_w24 ?x_w24 ?_; (case N_w24 => k_asm); (case m_w24 => k_mem); (case a_w24 => decide); (case b_w24 => decide); (case x_w24 => exact rfl); k_whole))
  k_with "subscriptTail Name" => (k_here; (with_reducible show wpAny _ _ (subscriptTail _ _ (Value.ref _) (Value.int _ _)) _ _ _); k_dflt (refine' item_led ?N_w25 ?m_w25 ?a_w25 ?b_w25 ?x_w25 ?_; (case N_w25 => k_asm); (case m_w25 => k_mem); (case a_w25 => decide); (case b_w25 => decide); (case x_w25 => exact rfl); k_whole))
  k_with "subscriptTail Name Constant ref int" => (k_here; (with_reducible show wpAny _ _ (subscriptTail _ _ (Value.ref _) (Value.int _ _)) _ _ _); k_dflt (refine' item_led ?N_w26 ?m_w26 ?a_w26 ?b_w26 ?x_w26 ?_; (case N_w26 => k_asm); (case m_w26 => k_mem); (case a_w26 => decide); (case b_w26 => decide); (case x_w26 => exact rfl); k_whole))
  k_with "subscriptTail Name Name ref int" => (k_here; (with_reducible show wpAny _ _ (subscriptTail _ _ (Value.ref _) (Value.int _ _)) _ _ _); k_dflt (refine' item_led ?N_w27 ?m_w27 ?a_w27 ?b_w27 ?x_w27 ?_; (case N_w27 => k_asm); (case m_w27 => k_mem); (case a_w27 => decide); (case b_w27 => decide); (case x_w27 => exact rfl); k_whole))
  k_with "subscriptTail Subscript Name Constant Name ref int" => (k_here; (with_reducible show wpAny _ _ (subscriptTail _ _ (Value.ref _) (Value.int _ _)) _ _ _); k_dflt (refine' item_led ?N_w28 ?m_w28 ?a_w28 ?b_w28 ?x_w28 ?_; (case N_w28 => k_asm); (case m_w28 => k_mem); (case a_w28 => decide); (case b_w28 => decide); (case x_w28 => exact rfl); k_whole))
  k_with "subscriptTail Subscript Name Constant Constant ref int" => (k_here; (with_reducible show wpAny _ _ (subscriptTail _ _ (Value.ref _) (Value.int _ _)) _ _ _); k_dflt (refine' item_led ?N_w29 ?m_w29 ?a_w29 ?b_w29 ?x_w29 ?_; (case N_w29 => k_asm); (case m_w29 => k_mem); (case a_w29 => decide); (case b_w29 => decide); (case x_w29 => exact rfl); k_whole))
  k_with "subscriptTail Subscript Name Name Name ref int" => (k_here; (with_reducible show wpAny _ _ (subscriptTail _ _ (Value.ref _) (Value.int _ _)) _ _ _); k_dflt (refine' item_led ?N_w30 ?m_w30 ?a_w30 ?b_w30 ?x_w30 ?_; (case N_w30 => k_asm); (case m_w30 => k_mem); (case a_w30 => decide); (case b_w30 => decide); (case x_w30 => exact rfl); k_whole))
  k_with "subscriptTail Subscript Name Name Constant ref int" => (k_here; (with_reducible show wpAny _ _ (subscriptTail _ _ (Value.ref _) (Value.int _ _)) _ _ _); k_dflt (refine' item_led ?N_w31 ?m_w31 ?a_w31 ?b_w31 ?x_w31 ?_; (case N_w31 => k_asm); (case m_w31 => k_mem); (case a_w31 => decide); (case b_w31 => decide); (case x_w31 => exact rfl); k_whole))
  k_with "getItem ref int" => (k_here; (with_reducible show wpAny _ _ (getItem (Value.ref _) (Value.int _ _)) _ _ _); k_dflt (refine' getItem_led ?N_w32 ?m_w32 ?a_w32 ?b_w32 ?x_w32 ?_; (case N_w32 => k_asm); (case m_w32 => k_mem); (case a_w32 => decide); (case b_w32 => decide); (case x_w32 => exact rfl); k_whole))
  trivial
def absR (p : Rat) : Rat := if ordR p 0 < 0 then -p else p
theorem absR_neg {p : Rat} (h : ordR p 0 < 0) : -p = absR p := by unfold absR; rw [if_pos h]
theorem absR_pos {p : Rat} (h : ¬ ordR p 0 < 0) : p = absR p := by unfold absR; rw [if_neg h]
theorem Sz.abs {e : Nat} {p : Rat} (h : Sz e p) : Sz e (absR p) := by unfold absR; split; exact h.neg; exact h
def HasPost (p : Rat) (news news' : List (Addr × Obj)) (r : Value) : Prop := ∃ D u1 u2 c', r = .ref D ∧ news' = (D, tup2 p.num u1 p.den u2 c') :: news
theorem has_ret {h₀ h' : Heap} {L : Addr} {m : Str → Option Value} {s : Shared} {Q : Value → Shared → Prop} {news all : List (Addr × Obj)} {p p' : Rat} {u1 u2 c : Nat} {D : Addr} {tk : Nat}
    (hret : ∀ r news' h' tk', Fr h₀ L h' m → News h₀ L h' news' → HasPost p news news' r → Q r { s with heap := h', toks := tk' })
    (F : Fr h₀ L h' m) (N : News h₀ L h' all) (hm : (D, tup2 p'.num u1 p'.den u2 c) ∈ all) (hs : ∀ p ∈ news, p ∈ all) (e1 : p' = p) : Q (.ref D) { s with heap := h', toks := tk } := by
  subst e1
  exact hret _ ((D, tup2 p'.num u1 p'.den u2 c) :: news) _ _ F (fun p hp => by
    rcases List.mem_cons.mp hp with rfl | hp
    · exact N _ hm
    · exact N p (hs p hp)) ⟨_, _, _, _, rfl, rfl⟩
theorem size_does (w : World) (mean : ExcName → Option Value) (mg mb : Str → Option Value) (news : List (Addr × Obj)) (x : Addr) (p : Rat) (e : Nat) (t1 t2 : Tok) (c1 : Nat)
    (hx : (x, tup2 p.num t1 p.den t2 c1) ∈ news) (hp : Sz e p) (hs : e + 1 ≤ 2300) :
    Does w mean mg mb 3 155 news [.ref x] (HasPost (absR p) news) := by
  intro dp un gd cn cs a ccd cl outer A₀ base h₀ L m s Q E B F X N T hk hd hu hret
  refine wpAny_call ?_
  k_dflt ktr_enter
  k_steps
  all_goals (refine' has_ret hret ?eF ?eN ?em ?es ?_; (case eF => k_asm); (case eN => k_asm); (case em => k_mem); (case es => kcj_all))
  all_goals first | exact absR_neg (by assumption) | exact absR_pos (by assumption)
section
variable {w : World} {mean : ExcName → Option Value} {mg mb : Str → Option Value} {news : List (Addr × Obj)}
  {dp un : Nat} {gd : Option (List Code)} {cn : Str} {cs : Scope} {a : Addr} {ccd : Value} {cl : List (Str × Addr)} {outer : List Env} {A₀ : Around} {base h₀ : Heap} {L : Addr} {m : Str → Option Value} {s : Shared} {Q E : Value → Shared → Prop}
theorem size_use {x : Addr} {p : Rat} {e : Nat} {t1 t2 : Tok} {c1 : Nat} (B : Below A₀ base outer h₀) (F : Fr h₀ L s.heap m) (X : (Hd.hd.heap_1 w.params).In h₀) (N : News h₀ L s.heap news) (T : Top Hd.hd.view_1 LO mean mg mb h₀) (hk : cs.kind = .function) (hd : dp + 3 < recursionLimit) (hu : un + 8 * 3 < cLine) (hx : (x, tup2 p.num t1 p.den t2 c1) ∈ news) (hp : Sz e p) (hs : e + 1 ≤ 2300)
    (ret : ∀ D u1 u2 c h' tk', Fr h₀ L h' m → News h₀ L h' ((D, tup2 (absR p).num u1 (absR p).den u2 c) :: news) → Sz e (absR p) → Q (.ref D) { s with heap := h', toks := tk' }) :
    wpAny (model PR w) (ktrTop dp un gd cn cs L a ccd cl outer) (call (.ref 155) [.ref x]) Q E s :=
  size_does w mean mg mb news x p e t1 t2 c1 hx hp hs dp un gd cn cs a ccd cl outer A₀ base h₀ L m s Q E B F X N T hk hd hu (fun r news' h' tk' F' N' ⟨D, u1, u2, c, e1, e2⟩ => by subst e1; subst e2; exact ret D u1 u2 c h' tk' F' N' hp.abs)
end
theorem bp1_does (w : World) (mean : ExcName → Option Value) (mg mb : Str → Option Value) (news : List (Addr × Obj)) (l r x : Addr) (c c2 : Nat)
    (hl : (l, listObj [.ref r] c) ∈ news) (hr : (r, listObj [.ref x] c2) ∈ news) :
    Does w mean mg mb 1 148 news [.ref l] (fun news' v => v = .ref x ∧ news' = news) := by
  intro dp un gd cn cs a ccd cl outer A₀ base h₀ L m s Q E B F X N T hk hd hu hret
  refine wpAny_call ?_
  k_dflt (refine' code_defC (binds := [(PySem.Str.ofString "rows", .ref l)]) ?k1 ?k2 ?k3 ?k4 ?k5 ?kA ?kF ?kK ?k6 ?k7 ?k8 ?k9 ?kB ?kD ?_ ?c2 ?c3 ?c4; (case kA => exact rfl); (case kF => exact rfl); (case kK => assumption); (case k1 => k_asm); (case k2 => k_asm); (case k3 => k_asm); (case k4 => k_asm); (case k5 => k_asm); (case k6 => k_is); (case k7 => k_is); (case k8 => ktr_room); (case k9 => exact BindsTo.of_eq rfl); (case kB => exact rfl); (case kD => decide +kernel); (case c2 => exact rfl); (case c3 => exact rfl); (case c4 => exact rfl); k_whole)
  intro g' L' h' tk' cells' FG' F' N' Y' B' X' T' l1
  have l2 := allLt_of l1
  have l3 : AllLt (L' + 1) _ := AllLt.mono l2 (Nat.le_succ _)
  have l4 : AllLt (L' + 1 + 1) _ := AllLt.mono l3 (Nat.le_succ _)
  k_cells Y'
  (try simp only [List.cons_append, List.nil_append] at N')
  (try dsimp only)
  (try k_fold)
  k_steps
  all_goals (exact hret _ _ _ _ (by k_asm) (cb_drop (by k_asm) (by kcj_all)) ⟨rfl, rfl⟩)
end Mine
end
section
open PySem PySem.W PyProof.Rows PySem.Calls PySem.Spec
set_option Elab.async false
set_option maxRecDepth 100000
set_option maxHeartbeats 8000000
namespace Mine
theorem comp_del {h₀ : Heap} {L I C D : Addr} {m : Str → Option Value} {s₁ : Shared} {oI oC oD : Obj} {S : List (Addr × Obj) → Prop} {rest : Value → List (Addr × Obj) → Prop} {y : Value} {h' : Heap} {tk : Nat} {all l1 l2 news' : List (Addr × Obj)}
    (F : Fr h₀ L h' m) (N : News h₀ L h' all) (D1 : Del I oI all l1) (D2 : Del C oC l1 l2) (D3 : Del D oD l2 news') (hS : S news') (r : rest y news') :
    LCg.CompEnd h₀ L m s₁ I oI C oC D oD S rest y { s₁ with heap := h', toks := tk } := by
  obtain ⟨a1, b1, c1⟩ := D1.facts
  obtain ⟨a2, b2, c2⟩ := D2.facts
  obtain ⟨a3, b3, c3⟩ := D3.facts
  refine LCg.CompEnd.intro F N news' (fun p hp => ?_) (LCg.Off3.of fun p hp => ⟨c1 p (b2 p (b3 p hp)), c2 p (b3 p hp), c3 p hp⟩) hS r
  rcases List.mem_cons.mp hp with rfl | hp
  · exact a1
  · rcases List.mem_cons.mp hp with rfl | hp
    · exact b1 _ a2
    · rcases List.mem_cons.mp hp with rfl | hp
      · exact b1 _ (b2 _ a3)
      · exact b1 _ (b2 _ (b3 _ hp))
theorem off3_addr {I C D : Addr} : ∀ {l l' : List (Addr × Obj)}, LCg.Off3 I C D l → l.map (·.1) = l'.map (·.1) → LCg.Off3 I C D l'
  | l, l', h, e => LCg.Off3.of fun p hp => by
    have hm : p.1 ∈ l.map (·.1) := by rw [e]; exact List.mem_map_of_mem hp
    obtain ⟨q, hq, hqe⟩ := List.mem_map.mp hm
    rw [← hqe]
    exact h.mem q hq
def Ent (q : Rat) : Prop := Sz 2 q ∧ q.den ∣ 6
theorem ent_of {t b : Int} (h1 : -4 ≤ t) (h2 : t ≤ 4) (h3 : 1 ≤ b) (h4 : b ≤ 3) : Ent (Rat.divInt t b) := by
  refine ⟨Sz.divInt (by omega) (by omega) (by omega), ?_⟩
  rw [Rat.den_divInt, if_neg (by omega)]
  have hd : b.natAbs / b.gcd t ∣ b.natAbs := Nat.div_dvd_of_dvd (by rw [Int.gcd_comm]; exact Int.gcd_dvd_natAbs_right t b)
  have hb : b.natAbs = 1 ∨ b.natAbs = 2 ∨ b.natAbs = 3 := by omega
  refine Nat.dvd_trans hd ?_
  rcases hb with h | h | h <;> rw [h] <;> decide
section
variable {w : World} {mean : ExcName → Option Value} {mg mb : Str → Option Value} {news : List (Addr × Obj)}
  {dp un : Nat} {gd : Option (List Code)} {cn : Str} {cs : Scope} {a : Addr} {ccd : Value} {cl : List (Str × Addr)} {outer : List Env} {A₀ : Around} {base h₀ : Heap} {L : Addr} {m : Str → Option Value} {s : Shared} {Q E : Value → Shared → Prop}
theorem make_use {t b : Int} {t1 t2 : Tok} (B : Below A₀ base outer h₀) (F : Fr h₀ L s.heap m) (X : (Hd.hd.heap_1 w.params).In h₀) (N : News h₀ L s.heap news) (T : Top Hd.hd.view_1 LO mean mg mb h₀) (hk : cs.kind = .function) (hd : dp + 2 < recursionLimit) (hu : un + 8 * 2 < cLine) (G : Great mg) (h1 : -40 ≤ t) (h2 : t ≤ 40) (h3 : 1 ≤ b) (h4 : b ≤ 40)
    (ret : ∀ D u1 u2 c h' tk', Fr h₀ L h' m → News h₀ L h' ((D, tup2 (Rat.divInt t b).num u1 (Rat.divInt t b).den u2 c) :: news) → AllLt D news → (-4 ≤ t → t ≤ 4 → b ≤ 3 → Ent (Rat.divInt t b)) → Sz 6 (Rat.divInt t b) → Q (.ref D) { s with heap := h', toks := tk' }) :
    wpAny (model PR w) (ktrTop dp un gd cn cs L a ccd cl outer) (call (.ref 67) [.int t t1, .int b t2]) Q E s := by
  obtain ⟨GR, tG, hG, hGR⟩ := G
  exact use_rat (make_does w mean mg mb GR tG hG news t b t1 t2 (by omega) (le_great (e := 6) (by omega) (by omega) hGR) (le_great (e := 6) (by omega) (by omega) hGR) (le_fit (e := 6) (by omega) (by omega))) B F X N T hk hd hu fun D u1 u2 c h' tk' F' N' l => ret D u1 u2 c h' tk' F' N' l (fun a1 a2 a3 => ent_of a1 a2 h3 a3) (Sz.divInt (by omega) (by omega) (by omega))
end
end Mine
end
section
open PySem PySem.W PyProof.Rows PySem.Calls PySem.Spec
set_option Elab.async false
set_option maxRecDepth 100000
set_option maxHeartbeats 8000000
namespace Mine
section
variable {prog : Program} {w : World} {A : Around} {E : Value → Shared → Prop} {s : Shared} {h₀ : Heap} {L : Addr} {m : Str → Option Value} {env : Env}
def EndC (h₀ : Heap) (L : Addr) (m : Str → Option Value) (s₁ : Shared) (I : Addr) (oI : Obj) (C : Addr) (oC : Obj) (D : Addr) (oD : Obj) (X : Addr) (oX : Obj) (S : List (Addr × Obj) → Prop) (rest : Value → List (Addr × Obj) → Prop) (y : Value) (s₂ : Shared) : Prop :=
  ∃ h' tk news', s₂ = { s₁ with heap := h', toks := tk } ∧ Fr h₀ L h' m ∧ News h₀ L h' ((I, oI) :: (C, oC) :: (D, oD) :: (X, oX) :: news') ∧ LCg.Off3 I C D ((X, oX) :: news') ∧ LCg.Off1 X news' ∧ S news' ∧ rest y news'
def RestC (prog : Program) (w : World) (A : Around) (h₀ : Heap) (L : Addr) (m : Str → Option Value) (env : Env) (elt : PySem.Expr) (x : Str) (scope : Scope) (cl : List (Str × Addr)) (s : Shared) (S : List (Addr × Obj) → Prop) (P : Nat → Value → Prop)
    (Fin : List Value → List (Addr × Obj) → Prop) : Nat → Nat → List Value → List (Addr × Obj) → Prop
  | 0, _, ys, news => Fin ys news
  | k + 1, i, ys, news => ∀ v I oI C oC D X oX h tk (E' : Value → Shared → Prop), P i v → oX.data = .cell (some v) → Fr h₀ L h m → News h₀ L h ((I, oI) :: (C, oC) :: (D, LCg.lst ys) :: (X, oX) :: news) → LCg.Off3 I C D ((X, oX) :: news) → LCg.Off1 X news → (@Ne Nat I C ∧ @Ne Nat I D ∧ @Ne Nat C D) →
      wpAny (model prog w) A (eval elt (compEnvC scope ((x, X) :: cl) C env)) (EndC h₀ L m { s with heap := h, toks := tk } I oI C oC D (LCg.lst ys) X oX S (fun y news' => RestC prog w A h₀ L m env elt x scope cl s S P Fin k (i + 1) (ys ++ [y]) news')) E' { s with heap := h, toks := tk }
theorem newEnv_cells1 {scope : Scope} {globals : Addr} {cl : List (Str × Addr)} {qual : Str} {outer : Env} {Q : Env → Shared → Prop}
    (hQ : Q { scope, locals := s.heap.objs.size, globals, cells := cellsFrom (s.heap.objs.size + 1) scope.names cl, qual, func := none, code := outer.code, frame := outer.frame, builtins := outer.builtins } { s with heap := pushCells (s.heap.push { cls := .type "dict", data := .dict #[] }) scope.names }) :
    wpAny (model prog w) A (newFunctionEnv scope globals cl [] qual none .none (some outer)) Q E s := by
  simp only [newFunctionEnv, Option.isSome_some, if_true]
  refine wpAny_bind (wpAny_alloc ?_)
  refine wpAny_bind (wpAny_layCells _ (fun name kind cells => by cases hkc : kind == NameKind.cell <;> simp [hkc]) _ _ _ _ ?_)
  rw [show ({ s with heap := s.heap.push { cls := .type "dict", data := .dict #[] } } : Shared).heap.objs.size = s.heap.objs.size + 1 from Heap.size_push ..]
  refine wpAny_bind ?_
  rw [List.forIn_nil]
  exact wpAny_pure (wpAny_pure hQ)
theorem block_C {elt iter : PySem.Expr} {x : Str} {px : Pos} {scope : Scope} {cl : List (Str × Addr)} {pos : Pos} {s₂ : Shared} {I : Addr} {fp : List Addr} {n : Nat} {P : Nat → Value → Prop} {St : Nat → Heap → Prop} {S : List (Addr × Obj) → Prop} {news : List (Addr × Obj)}
    {Fin : List Value → List (Addr × Obj) → Prop} {RR : Value → Addr → Result → Shared → Prop}
    (W : Walks prog w A I fp [I] n P St) (hsz : n ≤ sizeLine) (hIo : ∀ i h, St i h → ∃ o, h.get? I = some o)
    (hSt : ∀ i h h' o nw, St i h → h.get? I = some o → h'.get? I = some o → (∀ b o, h₀.get? b = some o → h'.get? b = some o) → News h₀ L h' nw → S nw → St i h')
    (hcf : ∀ k acc, cellsFrom k scope.names acc = (x, k) :: acc) (hpc : ∀ h : Heap, pushCells h scope.names = h.push { cls := .type "cell", data := .cell none })
    (hkind : scope.kind = .function) (hx : ∀ X C, (compEnvC scope ((x, X) :: cl) C env).kindOf x = some .cell) (hst : St 0 s₂.heap) (hfp : ∀ b ∈ fp, b < s₂.heap.objs.size)
    (F : Fr h₀ L s₂.heap m) (N : News h₀ L s₂.heap news) (hIL : L ≠ I) (hI₀ : h₀.get? I = none) (off : ∀ p ∈ news, p.1 ≠ I) (hS : S news)
    (R : RestC prog w A h₀ L m env elt x scope cl s₂ S P Fin n 0 [] news)
    (hRR : ∀ D C h tk m' ys news', Fr h₀ L h m → News h₀ L h ((D, LCg.lst ys) :: news') → LCg.Off1 D news' → h.Ns C m' → h₀.get? C = none → h₀.get? D = none → C ≠ L → D ≠ L → C ≠ D → (∀ p ∈ news', p.1 ≠ C) → Fin ys news' → RR (.ref D) C (.ok .next) { s₂ with heap := h, toks := tk }) :
    wpAny (model prog w) A (newList []) (fun acc s₃ => wpAny (model prog w) A (newFunctionEnv scope env.globals cl [] env.qual none .none (some env)) (fun cenv s₄ =>
      codeAny (model prog w) A (.compStart (.ListComp elt [⟨.Name x px, iter, [], 0⟩] scope pos) 0 (.ref I) acc { cenv with scope := relabel scope env }) (RR acc cenv.locals) s₄) E s₃) E s₂ := by
  refine wpAny_newObj_type (newEnv_cells1 ?_)
  rw [hcf, hpc]
  dsimp only
  generalize hH1 : s₂.heap.push { cls := .type "list", dict := none, data := .seq ([] : List Value).toArray } = H1
  generalize hH2 : H1.push { cls := .type "dict", data := .dict #[] } = H2
  generalize hH3 : H2.push { cls := .type "cell", data := .cell none } = H3
  have sz1 : H1.objs.size = s₂.heap.objs.size + 1 := by rw [← hH1, Heap.size_push]
  have sz2 : H2.objs.size = s₂.heap.objs.size + 1 + 1 := by rw [← hH2, Heap.size_push, sz1]
  have sz3 : H3.objs.size = s₂.heap.objs.size + 1 + 1 + 1 := by rw [← hH3, Heap.size_push, sz2]
  have up3 : ∀ b o, H2.get? b = some o → H3.get? b = some o := fun b o e => hH3 ▸ Heap.get?_push_of_some _ e
  have up2 : ∀ b o, H1.get? b = some o → H2.get? b = some o := fun b o e => hH2 ▸ Heap.get?_push_of_some _ e
  have up1 : ∀ b o, s₂.heap.get? b = some o → H1.get? b = some o := fun b o e => hH1 ▸ Heap.get?_push_of_some _ e
  have old : ∀ b o, s₂.heap.get? b = some o → H3.get? b = some o := fun b o e => up3 _ _ (up2 _ _ (up1 _ _ e))
  obtain ⟨D, hD⟩ : ∃ D, s₂.heap.objs.size = D := ⟨_, rfl⟩
  rw [hD] at sz1 sz2 sz3 ⊢
  rw [sz1]
  have hCD : D + 1 ≠ D := Nat.succ_ne_self D
  have gD : H3.get? D = some (LCg.lst []) := up3 _ _ (up2 _ _ (by rw [← hH1, ← hD]; exact Heap.get?_push_size _ rfl))
  have gC : H3.Ns (D + 1) (fun _ => none) := by
    have q : H2.Ns H1.objs.size (fun _ => none) := by rw [← hH2]; exact Heap.Ns.new H1 (.type "dict")
    rw [sz1] at q
    exact q.keeps up3
  have gX : H3.get? (D + 1 + 1) = some { cls := .type "cell", data := .cell none } := by
    have q := Heap.get?_push_size H2 (o := { cls := .type "cell", data := .cell none }) rfl
    rw [hH3, sz2] at q
    exact q
  have hIf : I ∈ fp := W.sub I (List.mem_singleton.mpr rfl)
  have lt : ∀ b, b < s₂.heap.objs.size → b ≠ D ∧ b ≠ D + 1 ∧ b ≠ D + 1 + 1 := fun b hb => by
    rw [hD] at hb
    exact ⟨Nat.ne_of_lt hb, Nat.ne_of_lt (Nat.lt_succ_of_lt hb), Nat.ne_of_lt (Nat.lt_succ_of_lt (Nat.lt_succ_of_lt hb))⟩
  have hfD : ∀ b ∈ fp, b ≠ D ∧ b ≠ D + 1 ∧ b ≠ D + 1 + 1 := fun b hb => lt b (hfp b hb)
  have hI := hfD I hIf
  have hL := lt L F.ns.lt
  have fresh₀ : ∀ a, D ≤ a → h₀.get? a = none := fun a ha => by
    cases e : h₀.get? a with
    | none => rfl
    | some o' =>
      have hlt := Heap.lt_size (F.keep a o' e)
      rw [hD] at hlt
      exact absurd hlt (Nat.not_lt.mpr ha)
  have hD₀ := fresh₀ D (Nat.le_refl _)
  have hC₀ := fresh₀ (D + 1) (Nat.le_succ _)
  have hX₀ := fresh₀ (D + 1 + 1) (Nat.le_succ_of_le (Nat.le_succ _))
  have offn : ∀ p ∈ news, p.1 ≠ D ∧ p.1 ≠ D + 1 ∧ p.1 ≠ D + 1 + 1 := fun p hp => lt p.1 (Heap.lt_size (N p hp).1)
  have hXD : (D + 1 + 1) ≠ D := fun e => Nat.lt_irrefl D (by rw [Nat.add_assoc] at e; exact absurd e (by simp))
  have hXC : (D + 1 + 1) ≠ D + 1 := Nat.succ_ne_self _
  have loop : ∀ s₃ : Shared, s₃ = { s₂ with heap := H3 } →
      codeAny (model prog w) A (.compLoop (.ListComp elt [⟨.Name x px, iter, [], 0⟩] scope pos) 0 (.ref I) (.ref D) (compEnvC scope ((x, D + 1 + 1) :: cl) (D + 1) env)) (RR (.ref D) (D + 1)) s₃ := by
    rintro s₃ rfl
    refine codeAny_compLoop_tests
      (fun k s' => ∃ h' tk i ys oX news', s' = { s₂ with heap := h', toks := tk } ∧ i ≤ n ∧ k = n + 1 - i ∧ ys.length = i ∧ St i h' ∧ Fr h₀ L h' m ∧ h'.Ns (D + 1) (fun _ => none) ∧ News h₀ L h' ((D, LCg.lst ys) :: (D + 1 + 1, oX) :: news') ∧ (∃ c, oX.data = .cell c) ∧
        LCg.Off3 I (D + 1) D ((D + 1 + 1, oX) :: news') ∧ LCg.Off1 (D + 1 + 1) news' ∧ S news' ∧ RestC prog w A h₀ L m env elt x scope cl s₂ S P Fin (n - i) i ys news') ?_ (n + 1)
      ⟨H3, _, 0, [], { cls := .type "cell", data := .cell none }, news, rfl, Nat.zero_le _, rfl, rfl, W.frame _ _ _ hst fun b _ o e => old b o e, F.keeps old, gC, fun p hp => ?_, ⟨_, rfl⟩, ?_, ?_, hS, R⟩
    · rintro k s' ⟨h', tk, i, ys, oX, news', rfl, hi, rfl, hyl, hst', F', hn', N', ⟨c, hoX⟩, off', offX, hS', R'⟩
      by_cases hlt : i < n
      · obtain ⟨j, hj⟩ : ∃ j, n - i = j + 1 := ⟨n - i - 1, by omega⟩
        rw [hj] at R'
        refine W.item i _ _ _ hlt hst' fun v h₂ tk₂ hPv hst₂ hk₂ => ?_
        have off3 := off'.mem
        have N₂ : News h₀ L h₂ ((D, LCg.lst ys) :: (D + 1 + 1, oX) :: news') := LCg.news_but N' hk₂ fun p hp => by
          rcases List.mem_cons.mp hp with rfl | hp
          · exact Ne.symm hI.1
          · exact (off3 p hp).1
        have F₂ := LCg.fr_but F' hk₂ hIL hI₀
        have hcell : h₂.IsCell (D + 1 + 1) c := ⟨oX, (N₂ _ (.tail _ (.head _))).1, hoX⟩
        refine wpAny_assign_Name (wpAny_storeName_cell (c := D + 1 + 1) (by simp [compEnvC, relabel, hkind]) (hx _ _) (by simp [compEnvC]) hcell fun h₃ hc₃ hs₃ => ?_)
        refine wpAny_tests_nil ?_
        simp only [if_true]
        have hst₃ : St (i + 1) h₃ := W.frame _ _ _ hst₂ fun b hb o e => hs₃.extBut b o (hfD b hb).2.2 e
        obtain ⟨oI, heI⟩ := hIo _ _ hst₃
        have hn₃ : h₃.Ns (D + 1) (fun _ => none) := (hn'.at' fun o e => hk₂ _ o (by simpa using Ne.symm hI.2.1) e).sameBut hs₃ (Ne.symm hXC)
        obtain ⟨oC, heC, hoC⟩ := LCg.ns_obj hn₃
        obtain ⟨oX₃, heX, hdX⟩ := hc₃
        have F₃ : Fr h₀ L h₃ m := F₂.change hs₃ (Ne.symm hL.2.2) hX₀
        have N₃ : News h₀ L h₃ ((I, oI) :: (D + 1, oC) :: (D, LCg.lst ys) :: (D + 1 + 1, oX₃) :: news') := fun p hp => by
          rcases List.mem_cons.mp hp with rfl | hp
          · exact ⟨heI, Ne.symm hIL, hI₀⟩
          · rcases List.mem_cons.mp hp with rfl | hp
            · exact ⟨heC, Ne.symm hL.2.1, hC₀⟩
            · rcases List.mem_cons.mp hp with rfl | hp
              · have z := N₂ _ (.head _)
                exact ⟨hs₃.extBut _ _ (Ne.symm hXD) z.1, z.2⟩
              · rcases List.mem_cons.mp hp with rfl | hp
                · exact ⟨heX, Ne.symm hL.2.2, hX₀⟩
                · have z := N₂ p (.tail _ (.tail _ hp))
                  have ox : LCg.Off3 (D + 1 + 1) (D + 1 + 1) (D + 1 + 1) news' := LCg.Off3.of fun q hq => by
                    have : q.1 ≠ D + 1 + 1 := by
                      have aux : ∀ (l : List (Addr × Obj)), LCg.Off1 (D + 1 + 1) l → ∀ q ∈ l, q.1 ≠ D + 1 + 1 := by
                        intro l
                        induction l with
                        | nil => intro _ q hq; cases hq
                        | cons a l ih =>
                          intro h q hq
                          rcases List.mem_cons.mp hq with rfl | hq
                          · exact h.1
                          · exact ih h.2 q hq
                      exact aux _ offX q hq
                    exact ⟨this, this, this⟩
                  exact ⟨hs₃.extBut _ _ (ox.mem p hp).1 z.1, z.2⟩
        have off₃ : LCg.Off3 I (D + 1) D ((D + 1 + 1, oX₃) :: news') := ⟨off'.1, off'.2⟩
        refine wpAny_mono (R' v I oI (D + 1) oC D (D + 1 + 1) oX₃ h₃ _ _ hPv hdX F₃ N₃ off₃ offX ⟨hI.2.1, hI.1, hCD⟩) (fun y s₄ h₄ => ?_) fun _ _ e => e
        obtain ⟨h₄, tk₄, news₄, rfl, F₄, N₄, off₄, offX₄, hS₄, R₄⟩ := h₄
        have zI := (N₄ (I, oI) (.head _)).1
        have zC := (N₄ (D + 1, oC) (.tail _ (.head _))).1
        have zD := (N₄ (D, LCg.lst ys) (.tail _ (.tail _ (.head _)))).1
        have N₄' : News h₀ L h₄ news₄ := fun p hp => N₄ p (.tail _ (.tail _ (.tail _ (.tail _ hp))))
        have N₄x : News h₀ L h₄ ((D + 1 + 1, oX₃) :: news₄) := fun p hp => N₄ p (.tail _ (.tail _ (.tail _ hp)))
        have hst₄ : St (i + 1) h₄ := hSt _ _ _ _ _ hst₃ heI zI F₄.keep N₄' hS₄
        refine append_at (hsz := by show ys.toArray.size ≤ sizeLine; rw [List.size_toArray, hyl]; exact Nat.le_trans hi hsz) zD fun h₅ hs₅ hD₅ => ?_
        have off4 := off₄.mem
        refine ⟨n + 1 - (i + 1), by omega, h₅, tk₄, i + 1, ys ++ [y], oX₃, news₄, rfl, hlt, rfl, by rw [List.length_append, List.length_singleton, hyl], W.frame _ _ _ hst₄ fun b hb o e => hs₅.extBut b o (hfD b hb).1 e, F₄.change hs₅ (Ne.symm hL.1) hD₀,
          (hoC.ns zC).sameBut hs₅ hCD, fun p hp => ?_, ⟨_, hdX⟩, off₄, offX₄, hS₄, ?_⟩
        · rcases List.mem_cons.mp hp with rfl | hp
          · exact ⟨hD₅.trans (congrArg some (LCg.lst_snoc ys y)), Ne.symm hL.1, hD₀⟩
          · exact ⟨hs₅.extBut _ _ (off4 p hp).2.2 (N₄x p hp).1, (N₄x p hp).2⟩
        · rw [show n - (i + 1) = j by omega]
          exact R₄
      · obtain rfl : i = n := Nat.le_antisymm hi (Nat.not_lt.mp hlt)
        rw [Nat.sub_self] at R'
        refine W.done _ _ _ hst' fun h₂ tk₂ hk₂ => ?_
        have off3 := off'.mem
        have N₂ := LCg.news_but N' hk₂ fun p hp => by
          rcases List.mem_cons.mp hp with rfl | hp
          · exact Ne.symm hI.1
          · exact (off3 p hp).1
        exact hRR D (D + 1) h₂ tk₂ _ ys news' (LCg.fr_but F' hk₂ hIL hI₀) (fun p hp => by
          rcases List.mem_cons.mp hp with rfl | hp
          · exact N₂ _ (.head _)
          · exact N₂ p (.tail _ (.tail _ hp))) (LCg.Off3.one off'.2) (hn'.at' fun o e => hk₂ _ o (by simpa using Ne.symm hI.2.1) e) hC₀ hD₀ (Ne.symm hL.2.1) (Ne.symm hL.1) hCD (fun p hp => (off3 p (.tail _ hp)).2.1) R'
    · rcases List.mem_cons.mp hp with rfl | hp
      · exact ⟨gD, Ne.symm hL.1, hD₀⟩
      · rcases List.mem_cons.mp hp with rfl | hp
        · exact ⟨gX, Ne.symm hL.2.2, hX₀⟩
        · exact ⟨old _ _ (N p hp).1, (N p hp).2⟩
    · exact ⟨⟨Ne.symm hI.2.2, hXC, hXD⟩, LCg.Off3.of fun p hp => ⟨off p hp, (offn p hp).2.1, (offn p hp).1⟩⟩
    · have aux : ∀ l : List (Addr × Obj), (∀ p ∈ l, p.1 ≠ D + 1 + 1) → LCg.Off1 (D + 1 + 1) l := by
        intro l
        induction l with
        | nil => intro _; trivial
        | cons a l ih => intro h; exact ⟨h a (.head _), ih fun p hp => h p (.tail _ hp)⟩
      exact aux _ fun p hp => (offn p hp).2.2
  refine codeAny_compStart_list (loop _ rfl) (W.self 0 _ _ _ (W.frame _ _ _ hst fun b _ o e => old b o e) (loop _ rfl))
def SrcCL (prog : Program) (w : World) (A : Around) (h₀ : Heap) (L : Addr) (m : Str → Option Value) (env : Env) (elt : PySem.Expr) (x : Str) (scope : Scope) (cl : List (Str × Addr)) (Fin : Shared → List Value → List (Addr × Obj) → Prop) (xv : Value) (s₁ : Shared) : Prop :=
  ∃ ax its news, xv = .ref ax ∧ A.handled = none ∧ Fr h₀ L s₁.heap m ∧ News h₀ L s₁.heap news ∧ LCg.SrcAt h₀ ax its news ∧ its.size ≤ sizeLine ∧
    ∀ s₂ : Shared, (∃ h, s₂ = { s₁ with heap := h }) → RestC prog w A h₀ L m env elt x scope cl s₂ (LCg.SrcAt h₀ ax its) (fun i v => its[i]? = some v) (Fin s₂) its.size 0 [] news
def SrcCR (prog : Program) (w : World) (A : Around) (h₀ : Heap) (L : Addr) (m : Str → Option Value) (env : Env) (elt : PySem.Expr) (x : Str) (scope : Scope) (cl : List (Str × Addr)) (Fin : Shared → List Value → List (Addr × Obj) → Prop) (xv : Value) (s₁ : Shared) : Prop :=
  ∃ r a b t u v n news, xv = .ref r ∧ A.handled = none ∧ Fr h₀ L s₁.heap m ∧ News h₀ L s₁.heap news ∧ IsRange s₁.heap r a b 1 t u v ∧ Builtin.Range.small a b 1 = true ∧ Builtin.Range.rangeSize a b 1 = ((n : Nat) : Int) ∧ n ≤ sizeLine ∧
    ∀ s₂ : Shared, (∃ h, s₂ = { s₁ with heap := h }) → RestC prog w A h₀ L m env elt x scope cl s₂ (fun _ => True) (fun i v => ∃ t, v = .int (a + (i : Int)) t) (Fin s₂) n 0 [] news
def SrcC (prog : Program) (w : World) (A : Around) (h₀ : Heap) (L : Addr) (m : Str → Option Value) (env : Env) (elt : PySem.Expr) (x : Str) (scope : Scope) (cl : List (Str × Addr)) (Fin : Shared → List Value → List (Addr × Obj) → Prop) (xv : Value) (s₁ : Shared) : Prop :=
  SrcCL prog w A h₀ L m env elt x scope cl Fin xv s₁ ∨ SrcCR prog w A h₀ L m env elt x scope cl Fin xv s₁
theorem SrcC.ledger {elt : PySem.Expr} {x : Str} {scope : Scope} {cl : List (Str × Addr)} {Fin : Shared → List Value → List (Addr × Obj) → Prop} {ax : Addr} {its : Array Value} {k : Nat} {news : List (Addr × Obj)} {s₁ : Shared}
    (hh : A.handled = none) (F : Fr h₀ L s₁.heap m) (N : News h₀ L s₁.heap news) (hm : (ax, ({ cls := .type "list", data := .seq its k } : Obj)) ∈ news) (hsz : its.size ≤ sizeLine)
    (h : ∀ g, RestC prog w A h₀ L m env elt x scope cl { s₁ with heap := g } (LCg.SrcAt h₀ ax its) (fun i v => its[i]? = some v) (Fin { s₁ with heap := g }) its.size 0 [] news) :
    SrcC prog w A h₀ L m env elt x scope cl Fin (.ref ax) s₁ := .inl ⟨ax, its, news, rfl, hh, F, N, .inr ⟨_, hm, rfl, _, rfl⟩, hsz, fun _ ⟨g, e⟩ => e ▸ h g⟩
theorem SrcC.range {elt : PySem.Expr} {x : Str} {scope : Scope} {cl : List (Str × Addr)} {Fin : Shared → List Value → List (Addr × Obj) → Prop} {r : Addr} {a b : Int} {t u v : Tok} {n : Nat} {news : List (Addr × Obj)} {s₁ : Shared}
    (hh : A.handled = none) (F : Fr h₀ L s₁.heap m) (N : News h₀ L s₁.heap news) (hr : IsRange s₁.heap r a b 1 t u v) (hsm : Builtin.Range.small a b 1 = true) (hn : Builtin.Range.rangeSize a b 1 = ((n : Nat) : Int)) (hsz : n ≤ sizeLine)
    (h : ∀ g, RestC prog w A h₀ L m env elt x scope cl { s₁ with heap := g } (fun _ => True) (fun i v => ∃ t, v = .int (a + (i : Int)) t) (Fin { s₁ with heap := g }) n 0 [] news) :
    SrcC prog w A h₀ L m env elt x scope cl Fin (.ref r) s₁ := .inr ⟨r, a, b, t, u, v, n, news, rfl, hh, F, N, hr, hsm, hn, hsz, fun _ ⟨g, e⟩ => e ▸ h g⟩
theorem ListComp_C {elt iter : PySem.Expr} {x : Str} {px : Pos} {scope : Scope} {cl : List (Str × Addr)} {pos : Pos} {Q : Value → Shared → Prop} (F₀ : Fr h₀ L s.heap m)
    (hclos : closureFor scope env = pure cl) (hkind : scope.kind = .function)
    (hnames : ∀ y ∈ scope.names, y.2 = .local → scope.names.lookup y.1 = some .local)
    (hcf : ∀ k acc, cellsFrom k scope.names acc = (x, k) :: acc) (hpc : ∀ h : Heap, pushCells h scope.names = h.push { cls := .type "cell", data := .cell none })
    (hx : ∀ X C, (compEnvC scope ((x, X) :: cl) C env).kindOf x = some .cell)
    (h : wpAny (model prog w) A (eval iter env) (SrcC prog w A h₀ L m env elt x scope cl (fun s₂ => LCg.FinE h₀ L m s₂ Q)) E s)
    (hs : ∀ x, foldedSetIterable iter env x = pure x := by intro _; rfl) :
    wpAny (model prog w) A (eval (.ListComp elt [⟨.Name x px, iter, [], 0⟩] scope pos) env) Q E s := by
  rw [eval_ListComp]
  refine wpAny_comprehension_free (use := none) rfl hs hclos hkind hnames (wpAny_mono h (fun xv s₁ h₁ => ?_) fun _ _ e => e)
  rcases h₁ with ⟨ax, its, news, rfl, hh, F, N, S, hsz, R⟩ | ⟨r, a, b, t, u, v, n, news, rfl, hh, F, N, hr, hsm, hn, hsz, R⟩
  · have hl := S.list F.keep N
    have hlt : ax < s₁.heap.objs.size := by obtain ⟨_, e, _⟩ := hl; exact Heap.lt_size e
    refine wpAny_pyIter_list hl ?_
    have up : ∀ b o, s₁.heap.get? b = some o → (s₁.heap.push { cls := .type "list_iterator", data := .fields #[.ref ax, .int 0 0] }).get? b = some o := fun b o e => Heap.get?_push_of_some _ e
    refine block_C (Walks.list hh s₁.heap.objs.size ax (Nat.ne_of_lt hlt) its) hsz (fun i h st => by obtain ⟨o, e, _⟩ := st.1; exact ⟨o, e⟩) LCg.list_st hcf hpc hkind hx ⟨⟨_, Heap.get?_push_size _ rfl, rfl, rfl⟩, hl.push _⟩ (fun b hb => ?_)
      (F.keeps up) (N.grown up) (Nat.ne_of_lt F.ns.lt) (next_is_new F) (fun p hp => Nat.ne_of_lt (Heap.lt_size (N p hp).1)) S (R _ ⟨_, rfl⟩) ?_
    · show b < (s₁.heap.push _).objs.size
      rw [Heap.size_push]
      rcases List.mem_cons.mp hb with rfl | hb
      · exact Nat.lt_succ_self _
      · rw [List.mem_singleton.mp hb]; exact Nat.lt_succ_of_lt hlt
    · intro D C h tk m' ys news' F' N' o1 hn hC₀ hD₀ hCL hDL hCD offC fin
      refine ⟨m', hn, fun h'' hs'' => fin D h'' tk (F'.change hs'' hCL hC₀) (fun p hp => ?_) o1⟩
      refine ⟨hs''.extBut _ _ ?_ (N' p hp).1, (N' p hp).2⟩
      rcases List.mem_cons.mp hp with rfl | hp
      · exact Ne.symm hCD
      · exact offC p hp
  · refine wpAny_pyIter_range hr hsm ?_
    refine block_C (LCg.range_walks hh a n) hsz (fun i h st => ⟨_, st⟩) LCg.range_st hcf hpc hkind hx (by show IsRangeIter _ _ _ _ _; rw [hn]; simpa using Heap.get?_push_size _ rfl) (fun b hb => ?_)
      (F.keeps fun _ _ e => Heap.get?_push_of_some _ e) (N.grown fun _ _ e => Heap.get?_push_of_some _ e) (Nat.ne_of_lt F.ns.lt) (next_is_new F) (fun p hp => Nat.ne_of_lt (Heap.lt_size (N p hp).1)) trivial (R _ ⟨_, rfl⟩) ?_
    · rw [List.mem_singleton.mp hb]
      show s₁.heap.objs.size < (s₁.heap.push _).objs.size
      rw [Heap.size_push]; exact Nat.lt_succ_self _
    · intro D C h tk m' ys news' F' N' o1 hn hC₀ hD₀ hCL hDL hCD offC fin
      refine ⟨m', hn, fun h'' hs'' => fin D h'' tk (F'.change hs'' hCL hC₀) (fun p hp => ?_) o1⟩
      refine ⟨hs''.extBut _ _ ?_ (N' p hp).1, (N' p hp).2⟩
      rcases List.mem_cons.mp hp with rfl | hp
      · exact Ne.symm hCD
      · exact offC p hp
end
end Mine
end
section
open PySem PySem.W PyProof.Rows PySem.Calls PySem.Spec
set_option Elab.async false
set_option maxRecDepth 100000
set_option maxHeartbeats 8000000
namespace Mine
theorem off1_ofD {D : Addr} : ∀ {l : List (Addr × Obj)}, (∀ p ∈ l, p.1 ≠ D) → LCg.Off1 D l
  | [], _ => trivial
  | a :: _, h => ⟨h a (.head _), off1_ofD fun p hp => h p (.tail _ hp)⟩
end Mine
end
section
open PySem PySem.W PyProof.Rows PySem.Calls PySem.Spec
set_option Elab.async false
set_option maxRecDepth 100000
set_option maxHeartbeats 8000000
namespace Mine
def Stop (p : Prop) : Prop := p
theorem Stop.out {p : Prop} (h : Stop p) : p := h
theorem Stop.mk {p : Prop} (h : p) : Stop p := h
theorem execs_cut {M : Model} {A : Around} {E : Value → Shared → Prop} {s : Shared} {env : Env} {st : Stmt} {rest : List Stmt} {Q : Flow → Shared → Prop} (Mid : Shared → Prop)
    (h1 : wpAny M A (exec st env) (fun f s' => match f with | .next => Stop (Mid s') | f => Q f s') E s)
    (h2 : ∀ s', Mid s' → wpAny M A (execs rest env) Q E s') : wpAny M A (execs (st :: rest) env) Q E s :=
  wpAny_execs_cons (wpAny_mono h1 (fun f s' h => by
    cases f with
    | next => exact h2 s' h
    | brk => exact h
    | cont => exact h
    | ret v => exact h) fun _ _ e => e)
theorem execs_cut2 {M : Model} {A : Around} {E : Value → Shared → Prop} {s : Shared} {env : Env} {st st2 : Stmt} {rest : List Stmt} {Q : Flow → Shared → Prop} (Mid : Shared → Prop)
    (h1 : wpAny M A (exec st env) (fun f s' => match f with | .next => wpAny M A (exec st2 env) (fun f s' => match f with | .next => Stop (Mid s') | f => Q f s') E s' | f => Q f s') E s)
    (h2 : ∀ s', Mid s' → wpAny M A (execs rest env) Q E s') : wpAny M A (execs (st :: st2 :: rest) env) Q E s :=
  wpAny_execs_cons (wpAny_mono h1 (fun f s' h => by
    cases f with
    | next => exact execs_cut Mid h h2
    | brk => exact h
    | cont => exact h
    | ret v => exact h) fun _ _ e => e)
section
variable {prog : Program} {w : World} {A : Around} {E : Value → Shared → Prop} {s : Shared} {env : Env} {h₀ : Heap} {x : Str} {body : List Stmt} {Q : Flow → Shared → Prop} {I : Addr}
abbrev TurnOk (prog : Program) (w : World) (A : Around) (E : Value → Shared → Prop) (h₀ : Heap) (env : Env) (x : Str) (body : List Stmt) (Q : Flow → Shared → Prop) (s : Shared) (I : Addr) (v : Int) (m : Str → Option Value) (news : List (Addr × Obj)) (J' : (Str → Option Value) → List (Addr × Obj) → Prop) : Prop :=
  ∀ (it : Obj) t h tk, Fr h₀ env.locals h m → News h₀ env.locals h ((I, it) :: news) →
      wpAny (model prog w) A (storeName env x (.int v t)) (fun _ s' => wpAny (model prog w) A (execs body env)
        (UnrPost h₀ env.locals s I it J' Q) E s') E { s with heap := h, toks := tk }
theorem unrPost_mono {L : Addr} {it : Obj} {J J' : (Str → Option Value) → List (Addr × Obj) → Prop} (hj : ∀ m nw, J m nw → J' m nw) (f : Flow) (s' : Shared) (h : UnrPost h₀ L s I it J Q f s') : UnrPost h₀ L s I it J' Q f s' := by
  cases f with
  | next => obtain ⟨h', tk, m', nw, a, b, c, d, e⟩ := h; exact ⟨h', tk, m', nw, a, b, c, d, hj _ _ e⟩
  | brk => exact h
  | cont => obtain ⟨h', tk, m', nw, a, b, c, d, e⟩ := h; exact ⟨h', tk, m', nw, a, b, c, d, hj _ _ e⟩
  | ret v => exact h
theorem TurnsC.one {J' : (Str → Option Value) → List (Addr × Obj) → Prop} {v : Int} {r : List Int} {m : Str → Option Value} {news : List (Addr × Obj)}
    (h : TurnOk prog w A E h₀ env x body Q s I v m news J') (hr : ∀ m' nw', J' m' nw' → TurnsC prog w A E h₀ env x body Q s I r m' nw') :
    TurnsC prog w A E h₀ env x body Q s I (v :: r) m news := fun it t h' tk F N =>
  wpAny_mono (h it t h' tk F N) (fun _ s' h2 => wpAny_mono h2 (fun f s'' h3 => unrPost_mono hr f s'' h3) fun _ _ e => e) fun _ _ e => e
theorem TurnsC.weaken : ∀ {r : List Int} {m : Str → Option Value} {small news : List (Addr × Obj)}, (∀ p ∈ small, p ∈ news) → TurnsC prog w A E h₀ env x body Q s I r m small → TurnsC prog w A E h₀ env x body Q s I r m news
  | [], _, _, _, hs, h => fun h' tk F N => h h' tk F fun p hp => N p (hs p hp)
  | _ :: _, _, _, _, hs, h => fun it t h' tk F N => h it t h' tk F fun p hp => by
    rcases List.mem_cons.mp hp with rfl | hp
    · exact N _ (.head _)
    · exact N p (.tail _ (hs p hp))
theorem TurnsC.join {J : (Str → Option Value) → List (Addr × Obj) → Prop} {r : List Int} {m : Str → Option Value} {news : List (Addr × Obj)} (hj : ∃ small, (∀ p ∈ small, p ∈ news) ∧ J m small)
    (h : ∀ m' nw', J m' nw' → TurnsC prog w A E h₀ env x body Q s I r m' nw') : TurnsC prog w A E h₀ env x body Q s I r m news :=
  let ⟨_, hs, hj⟩ := hj
  TurnsC.weaken hs (h _ _ hj)
inductive MidS (s : Shared) (h₀ : Heap) (L I : Addr) (it : Obj) (J : (Str → Option Value) → List (Addr × Obj) → Prop) (s' : Shared) : Prop
  | mk (h tk m nw : _) (f0 : s' = { s with heap := h, toks := tk }) (f1 : Fr h₀ L h m) (f2 : News h₀ L h ((I, it) :: nw)) (f3 : J m nw) : MidS s h₀ L I it J s'
theorem MidS.intro {L : Addr} {it : Obj} {J : (Str → Option Value) → List (Addr × Obj) → Prop} {h : Heap} {tk : Nat} {m : Str → Option Value} {all : List (Addr × Obj)}
    (F : Fr h₀ L h m) (N : News h₀ L h all) (hI : (I, it) ∈ all) (hj : ∃ small, (∀ p ∈ small, p ∈ all) ∧ J m small) : MidS s h₀ L I it J { s with heap := h, toks := tk } :=
  let ⟨small, hs, hj⟩ := hj
  ⟨h, tk, m, small, rfl, F, fun p hp => by
    rcases List.mem_cons.mp hp with rfl | hp
    · exact N _ hI
    · exact N p (hs p hp), hj⟩
theorem unrEnd_join {L : Addr} {it : Obj} {J : (Str → Option Value) → List (Addr × Obj) → Prop} {h : Heap} {tk : Nat} {m : Str → Option Value} {all : List (Addr × Obj)}
    (F : Fr h₀ L h m) (N : News h₀ L h all) (hI : (I, it) ∈ all) (hj : ∃ small, (∀ p ∈ small, p ∈ all) ∧ J m small) (off : ∀ m nw, J m nw → ∀ p ∈ nw, p.1 ≠ I) : UnrEnd h₀ L s I it J { s with heap := h, toks := tk } :=
  let ⟨small, hs, hj⟩ := hj
  UnrEnd.intro F N small (fun p hp => by
    rcases List.mem_cons.mp hp with rfl | hp
    · exact hI
    · exact hs p hp) (off _ _ hj) hj
end
end Mine
end
section
open PySem PySem.W PyProof.Rows PySem.Calls PySem.Spec PyProof.V
set_option Elab.async false
set_option maxRecDepth 100000
set_option maxHeartbeats 8000000
namespace Mine
theorem rat_same {p q : Rat} : (decide (p.num = q.num) && decide ((p.den : Int) = q.den)) = decide (p = q) := by
  by_cases h : p = q
  · subst h; simp
  · rw [decide_eq_false h]
    by_cases h1 : p.num = q.num
    · have : ¬ (p.den : Int) = q.den := fun e => h (Rat.ext h1 (by exact_mod_cast e))
      simp [this]
    · simp [h1]
section
variable {prog : Program} {w : World} {A : Around} {E : Value → Shared → Prop} {s : Shared} {h₀ : Heap} {L a b : Addr} {news : List (Addr × Obj)} {p q : Rat} {n1 n2 d1 d2 : Int} {t1 t2 t3 t4 : Tok} {c1 c2 : Nat} {Q : Value → Shared → Prop}
theorem eq_rats (N : News h₀ L s.heap news) (ha : (a, tup2 n1 t1 d1 t2 c1) ∈ news) (hb : (b, tup2 n2 t3 d2 t4 c2) ∈ news) (i1 : n1 = p.num) (i2 : d1 = p.den) (i3 : n2 = q.num) (i4 : d2 = q.den) (hu : A.units + 64 < cLine) (h : Q (.bool (decide (p = q))) s) :
    wpAny (model prog w) A (compareOp .Eq (.ref a) (.ref b)) Q E s := by
  subst i1 i2 i3 i4
  refine eq_dataH (reads_tuple_at (News.get N ha) rfl rfl (.cons (.int _ _) (.cons (.int _ _) .nil))) (reads_tuple_at (News.get N hb) rfl rfl (.cons (.int _ _) (.cons (.int _ _) .nil))) rfl rfl hu ?_
  have e : PyData.eqv (.tuple [.int p.num, .int p.den]) (.tuple [.int q.num, .int q.den]) = decide (p = q) := by
    rw [← rat_same]; simp only [PyData.eqv, PyData.eqvAll, Bool.and_true]; rfl
  rw [e]; exact h
theorem ne_rats (N : News h₀ L s.heap news) (ha : (a, tup2 n1 t1 d1 t2 c1) ∈ news) (hb : (b, tup2 n2 t3 d2 t4 c2) ∈ news) (i1 : n1 = p.num) (i2 : d1 = p.den) (i3 : n2 = q.num) (i4 : d2 = q.den) (hu : A.units + 64 < cLine) (h : Q (.bool (!decide (p = q))) s) :
    wpAny (model prog w) A (compareOp .NotEq (.ref a) (.ref b)) Q E s := by
  subst i1 i2 i3 i4
  refine ne_dataH (reads_tuple_at (News.get N ha) rfl rfl (.cons (.int _ _) (.cons (.int _ _) .nil))) (reads_tuple_at (News.get N hb) rfl rfl (.cons (.int _ _) (.cons (.int _ _) .nil))) rfl rfl hu ?_
  have e : PyData.eqv (.tuple [.int p.num, .int p.den]) (.tuple [.int q.num, .int q.den]) = decide (p = q) := by
    rw [← rat_same]; simp only [PyData.eqv, PyData.eqvAll, Bool.and_true]; rfl
  rw [e]; exact h
end
end Mine
end
section
open PySem PySem.W PyProof.Rows PySem.Calls PySem.Spec PyProof.V
set_option Elab.async false
set_option maxRecDepth 100000
set_option maxHeartbeats 8000000
namespace Mine
def RowAt (m : Nat) (led : List (Addr × Obj)) (r : Addr) (p : Nat → Rat) (e : Nat) : Prop :=
  ∃ as c, (r, listObj as c) ∈ led ∧ as.length = m ∧ ∀ j, j < m → ∃ a s u k, as[j]? = some (.ref a) ∧ (a, tup2 (p j).num s (p j).den u k) ∈ led ∧ Sz e (p j)
def RowsAt (n m : Nat) (led : List (Addr × Obj)) (vs : List Value) (P : Nat → Nat → Rat) (E : Nat → Nat) : Prop :=
  vs.length = n ∧ ∀ i, i < n → ∃ r, vs[i]? = some (.ref r) ∧ RowAt m led r (P i) (E i)
theorem RowAt.sub {m : Nat} {led led' : List (Addr × Obj)} {r : Addr} {p p' : Nat → Rat} {e e' : Nat} (h : RowAt m led r p e) (hs : ∀ q ∈ led, q ∈ led') (hp : ∀ j, j < m → p j = p' j) (he : e ≤ e') : RowAt m led' r p' e' := by
  obtain ⟨as, c, h1, h2, h3⟩ := h
  refine ⟨as, c, hs _ h1, h2, fun j hj => ?_⟩
  obtain ⟨a, s, u, k, g1, g2, g3⟩ := h3 j hj
  rw [hp j hj] at g2 g3
  exact ⟨a, s, u, k, g1, hs _ g2, g3.mono he⟩
theorem RowsAt.sub {n m : Nat} {led led' : List (Addr × Obj)} {vs : List Value} {P P' : Nat → Nat → Rat} {E E' : Nat → Nat} (h : RowsAt n m led vs P E) (hs : ∀ q ∈ led, q ∈ led') (hp : ∀ i, i < n → ∀ j, j < m → P i j = P' i j) (he : ∀ i, i < n → E i ≤ E' i) : RowsAt n m led' vs P' E' := by
  refine ⟨h.1, fun i hi => ?_⟩
  obtain ⟨r, h1, h2⟩ := h.2 i hi
  exact ⟨r, h1, h2.sub hs (hp i hi) (he i hi)⟩
theorem RowsAt.set {n m : Nat} {led led' : List (Addr × Obj)} {vs : List Value} {P : Nat → Nat → Rat} {E : Nat → Nat} {k : Nat} {D : Addr} {q : Nat → Rat} {e : Nat} (h : RowsAt n m led vs P E) (hs : ∀ q ∈ led, q ∈ led') (hk : k < n) (hq : RowAt m led' D q e) :
    RowsAt n m led' (vs.set k (.ref D)) (fun i => if i = k then q else P i) (fun i => if i = k then e else E i) := by
  refine ⟨by rw [List.length_set]; exact h.1, fun i hi => ?_⟩
  by_cases hik : i = k
  · subst hik
    refine ⟨D, ?_, by simpa using hq⟩
    rw [List.getElem?_set_self (by rw [h.1]; exact hi)]
  · obtain ⟨r, h1, h2⟩ := h.2 i hi
    refine ⟨r, ?_, ?_⟩
    · rw [List.getElem?_set_ne (fun e => hik e.symm)]; exact h1
    · simpa [hik] using h2.sub hs (fun _ _ => rfl) (Nat.le_refl _)
theorem RowsAt.swap {n m : Nat} {led led' : List (Addr × Obj)} {vs : List Value} {P : Nat → Nat → Rat} {e : Nat} {a b : Nat} {va vb : Value} (h : RowsAt n m led vs P (fun _ => e)) (hs : ∀ q ∈ led, q ∈ led') (ha : a < n) (hb : b < n) (hab : b ≠ a) (h1 : vs[a]? = some va) (h2 : vs[b]? = some vb) :
    RowsAt n m led' ((vs.set a vb).set b va) (fun i => if i = a then P b else if i = b then P a else P i) (fun _ => e) := by
  obtain ⟨ra, ga, ha'⟩ := h.2 a ha
  obtain ⟨rb, gb, hb'⟩ := h.2 b hb
  obtain rfl : va = .ref ra := Option.some.inj (h1.symm.trans ga)
  obtain rfl : vb = .ref rb := Option.some.inj (h2.symm.trans gb)
  refine ⟨by rw [List.length_set, List.length_set]; exact h.1, fun i hi => ?_⟩
  by_cases hib : i = b
  · subst hib
    refine ⟨ra, ?_, ?_⟩
    · rw [List.getElem?_set_self (by rw [List.length_set, h.1]; exact hi)]
    · simpa [hab] using ha'.sub hs (fun _ _ => rfl) (Nat.le_refl _)
  · by_cases hia : i = a
    · subst hia
      refine ⟨rb, ?_, ?_⟩
      · rw [List.getElem?_set_ne (fun e => hib e.symm), List.getElem?_set_self (by rw [h.1]; exact hi)]
      · simpa using hb'.sub hs (fun _ _ => rfl) (Nat.le_refl _)
    · obtain ⟨r, g1, g2⟩ := h.2 i hi
      refine ⟨r, ?_, ?_⟩
      · rw [List.getElem?_set_ne (fun e => hib e.symm), List.getElem?_set_ne (fun e => hia e.symm)]; exact g1
      · simpa [hia, hib] using g2.sub hs (fun _ _ => rfl) (Nat.le_refl _)
theorem split_ledger {h₀ h' : Heap} {L : Addr} {all news : List (Addr × Obj)} (N : News h₀ L h' all) (hs : ∀ p ∈ news, p ∈ all) :
    ∃ tl, (∀ p ∈ all, p ∈ tl ++ news) ∧ (∀ p ∈ tl ++ news, p ∈ all) ∧ (∀ p ∈ tl, ∀ q ∈ news, q.1 ≠ p.1) := by
  refine ⟨all.filter (fun p => decide (∀ q ∈ news, q.1 ≠ p.1)), fun p hp => ?_, fun p hp => ?_, fun p hp => ?_⟩
  · by_cases h : ∀ q ∈ news, q.1 ≠ p.1
    · exact List.mem_append.mpr (.inl (List.mem_filter.mpr ⟨hp, by simpa using h⟩))
    · refine List.mem_append.mpr (.inr ?_)
      have : ∃ q ∈ news, q.1 = p.1 := by
        apply Classical.byContradiction
        intro hn
        exact h fun q hq e => hn ⟨q, hq, e⟩
      obtain ⟨q, hq, e⟩ := this
      have z1 := (N p hp).1
      have z2 := (N q (hs q hq)).1
      rw [e, z1] at z2
      have : p = q := Prod.ext e.symm (Option.some.inj z2)
      rw [this]; exact hq
  · rcases List.mem_append.mp hp with h | h
    · exact (List.mem_filter.mp h).1
    · exact hs p h
  · have := (List.mem_filter.mp hp).2
    simpa using this
theorem size_up {a b : Int} (h : a ≤ b) : Builtin.Range.rangeSize a b 1 = b - a := by
  unfold Builtin.Range.rangeSize
  rw [if_pos (by decide)]
  split <;> omega
section
variable {prog : Program} {w : World} {A : Around} {E : Value → Shared → Prop} {s : Shared} {env : Env} {h₀ : Heap} {x : Str} {body : List Stmt} {Q : Flow → Shared → Prop} {I : Addr}
theorem TurnsC.gen {J : Int → (Str → Option Value) → List (Addr × Obj) → Prop} : ∀ (n : Nat) (a : Int) {m : Str → Option Value} {news : List (Addr × Obj)}, (∃ small, (∀ p ∈ small, p ∈ news) ∧ J a m small) →
    (∀ v m nw, a ≤ v → v < a + n → J v m nw → TurnOk prog w A E h₀ env x body Q s I v m nw (J (v + 1))) → (∀ m nw, J (a + n) m nw → TurnsC prog w A E h₀ env x body Q s I [] m nw) → TurnsC prog w A E h₀ env x body Q s I (upFrom a n) m news
  | 0, a, _, _, hj, _, hz => TurnsC.join hj fun m nw j => hz m nw (by simpa using j)
  | n + 1, a, _, _, hj, ht, hz => TurnsC.join hj fun m nw j => by
    rw [upFrom]
    refine TurnsC.one (J' := J (a + 1)) (ht a m nw (by omega) (by omega) j) fun m' nw' j' => ?_
    exact TurnsC.gen n (a + 1) ⟨nw', fun _ h => h, j'⟩ (fun v m nw h1 h2 => ht v m nw (by omega) (by omega)) (fun m nw j => hz m nw (by
      have e : a + ((n + 1 : Nat) : Int) = a + 1 + (n : Int) := by omega
      rw [e]; exact j))
theorem small_range {a b : Int} (h1 : -1000 ≤ a) (h2 : a ≤ 1000) (h3 : -1000 ≤ b) (h4 : b ≤ 1000) : Builtin.Range.small a b 1 = true := by
  exact small_one (by omega) (by omega) (by omega) (by omega)
theorem iter_gen {px : Pos} {r : Addr} {a b : Int} {t₀ u₀ v₀ : Tok} {m₀ : Str → Option Value} {news : List (Addr × Obj)} (J : Addr → Int → (Str → Option Value) → List (Addr × Obj) → Prop)
    (hh : A.handled = none) (hr : IsRange s.heap r a b 1 t₀ u₀ v₀) (hab : -1000 ≤ a ∧ a ≤ b ∧ b ≤ 1000) (F : Fr h₀ env.locals s.heap m₀) (N : News h₀ env.locals s.heap news) (hE : PassesOwn (model prog w) A env E)
    (h1 : ∀ I : Addr, AllLt I news → ∃ small, (∀ p ∈ small, p ∈ news) ∧ J I a m₀ small)
    (h2 : ∀ I v m nw, a ≤ v → v < b → J I v m nw → TurnOk prog w A E h₀ env x body Q s I v m nw (J I (v + 1)))
    (h3 : ∀ I m nw, J I b m nw → TurnsC prog w A E h₀ env x body Q s I [] m nw) :
    wpAny (model prog w) A (pyIter (.ref r)) (LoopC prog w A E env x px body Q) E s := by
  have e := size_up hab.2.1
  refine iter_rangeC hh hr (small_range (by omega) (by omega) (by omega) (by omega)) rfl (by omega) F N hE fun I hI => ?_
  refine TurnsC.gen (J := J I) _ _ (h1 I (allLt_of hI)) (fun v m nw g1 g2 => h2 I v m nw g1 (by omega)) fun m nw j => h3 I m nw (by
    have e2 : b = a + ((Builtin.Range.rangeSize a b 1).toNat : Int) := by omega
    rw [e2]; exact j)
end
inductive Apart (L R : Addr) (rest : List (Addr × Obj)) : Prop
  | mk (f0 : @Ne Nat R (L + 1 + 1 + 1 + 1)) (f1 : @Ne Nat R (L + 1 + 1 + 1)) (f2 : @Ne Nat R (L + 1 + 1)) (f3 : @Ne Nat R (L + 1)) (f4 : @Ne Nat (L + 1 + 1 + 1 + 1) R) (f5 : @Ne Nat (L + 1 + 1 + 1) R) (f6 : @Ne Nat (L + 1 + 1) R) (f7 : @Ne Nat (L + 1) R) (f8 : (∀ p ∈ rest, p.1 ≠ L + 1 + 1 + 1 + 1)) (f9 : (∀ p ∈ rest, p.1 ≠ L + 1 + 1 + 1)) (f10 : (∀ p ∈ rest, p.1 ≠ L + 1 + 1)) (f11 : (∀ p ∈ rest, p.1 ≠ L + 1)) (f12 : (∀ p ∈ rest, p.1 ≠ R)) : Apart L R rest
inductive OffI (I L R : Addr) (rest : List (Addr × Obj)) : Prop
  | mk (f0 : @Ne Nat (L + 1 + 1 + 1 + 1) I) (f1 : @Ne Nat (L + 1 + 1 + 1) I) (f2 : @Ne Nat (L + 1 + 1) I) (f3 : @Ne Nat (L + 1) I) (f4 : @Ne Nat R I) (f5 : @Ne Nat I (L + 1 + 1 + 1 + 1)) (f6 : @Ne Nat I (L + 1 + 1 + 1)) (f7 : @Ne Nat I (L + 1 + 1)) (f8 : @Ne Nat I (L + 1)) (f9 : @Ne Nat I R) (f10 : (∀ p ∈ rest, p.1 ≠ I)) : OffI I L R rest
theorem offI_of {I L R : Addr} {rest : List (Addr × Obj)} {oM oP oA oR oL : Obj} (h : LCg.Off1 I ((L + 1 + 1 + 1 + 1, oM) :: (L + 1 + 1 + 1, oP) :: (L + 1 + 1, oA) :: (L + 1, oR) :: (R, oL) :: rest)) : OffI I L R rest :=
  have h := off1_mem h
  have g : ∀ x o, (x, o) ∈ (L + 1 + 1 + 1 + 1, oM) :: (L + 1 + 1 + 1, oP) :: (L + 1 + 1, oA) :: (L + 1, oR) :: (R, oL) :: rest → @Ne Nat x I := fun x o hm => h (x, o) hm
  have a1 := g _ oM (.head _)
  have a2 := g _ oP (.tail _ (.head _))
  have a3 := g _ oA (.tail _ (.tail _ (.head _)))
  have a4 := g _ oR (.tail _ (.tail _ (.tail _ (.head _))))
  have a5 := g _ oL (.tail _ (.tail _ (.tail _ (.tail _ (.head _)))))
  ⟨a1, a2, a3, a4, a5, a1.symm, a2.symm, a3.symm, a4.symm, a5.symm, fun p hp => h p (.tail _ (.tail _ (.tail _ (.tail _ (.tail _ hp)))))⟩
inductive St (n m : Nat) (L : Addr) (base : List (Addr × Obj)) (CA : Option Value → Prop) (P : Nat → Nat → Rat) (E : Nat → Nat) (f : Rat) (ef : Nat) (mm : Str → Option Value) (nw : List (Addr × Obj)) : Prop
  | mk (R : Addr) (vs : List Value) (cR : Nat) (rest : List (Addr × Obj)) (Fd : Addr) (sf uf : Tok) (kf : Nat) (oM oP oA oR : Obj) (vM vP vA : Option Value) (f0 : mm (PySem.Str.ofString "found") = some (.ref Fd)) (f1 : oM.data = .cell vM) (f2 : oP.data = .cell vP) (f3 : oA.data = .cell vA) (f4 : oR.data = .cell (some (.ref R))) (f5 : CA vA) (f6 : nw = (L + 1 + 1 + 1 + 1, oM) :: (L + 1 + 1 + 1, oP) :: (L + 1 + 1, oA) :: (L + 1, oR) :: (R, listObj vs cR) :: rest) (f7 : Apart L R rest) (f8 : (∀ p ∈ base, p ∈ rest)) (f9 : (Fd, tup2 f.num sf f.den uf kf) ∈ rest) (f10 : Sz ef f) (f11 : RowsAt n m rest vs P E) : St n m L base CA P E f ef mm nw
theorem St.intro {n m : Nat} {L : Addr} {base : List (Addr × Obj)} {CA : Option Value → Prop} {P : Nat → Nat → Rat} {E : Nat → Nat} {f : Rat} {ef : Nat} {mm : Str → Option Value} {all l1 l2 l3 l4 : List (Addr × Obj)}
    {R : Addr} {vs : List Value} {cR : Nat} {rest : List (Addr × Obj)} {Fd : Addr} {sf uf : Tok} {kf : Nat} {oM oP oA oR : Obj} {vM vP vA : Option Value} {fn fd : Int} {ef' : Nat}
    (dM : oM.data = .cell vM) (dP : oP.data = .cell vP) (dA : oA.data = .cell vA) (dR : oR.data = .cell (some (.ref R)))
    (D1 : Del (L + 1 + 1 + 1 + 1) oM all l1) (D2 : Del (L + 1 + 1 + 1) oP l1 l2) (D3 : Del (L + 1 + 1) oA l2 l3) (D4 : Del (L + 1) oR l3 l4) (D5 : Del R (listObj vs cR) l4 rest)
    (hf : mm (PySem.Str.ofString "found") = some (.ref Fd)) (hF : (Fd, tup2 fn sf fd uf kf) ∈ rest) (i1 : fn = f.num) (i2 : fd = f.den) (hb : ∀ p ∈ base, p ∈ rest) (hz : Sz ef' f) (hl : ef' ≤ ef) (cA : CA vA) (hR : RowsAt n m rest vs P E) :
    ∃ small, (∀ p ∈ small, p ∈ all) ∧ St n m L base CA P E f ef mm small := by
  subst i1 i2
  obtain ⟨a1, b1, c1⟩ := D1.facts
  obtain ⟨a2, b2, c2⟩ := D2.facts
  obtain ⟨a3, b3, c3⟩ := D3.facts
  obtain ⟨a4, b4, c4⟩ := D4.facts
  obtain ⟨a5, b5, c5⟩ := D5.facts
  refine ⟨(L + 1 + 1 + 1 + 1, oM) :: (L + 1 + 1 + 1, oP) :: (L + 1 + 1, oA) :: (L + 1, oR) :: (R, listObj vs cR) :: rest, fun p hp => ?_, R, vs, cR, rest, Fd, sf, uf, kf, oM, oP, oA, oR, vM, vP, vA, hf, dM, dP, dA, dR, cA, rfl, ?_, hb, hF, hz.mono hl, hR⟩
  · rcases List.mem_cons.mp hp with rfl | hp
    · exact a1
    · rcases List.mem_cons.mp hp with rfl | hp
      · exact b1 _ a2
      · rcases List.mem_cons.mp hp with rfl | hp
        · exact b1 _ (b2 _ a3)
        · rcases List.mem_cons.mp hp with rfl | hp
          · exact b1 _ (b2 _ (b3 _ a4))
          · rcases List.mem_cons.mp hp with rfl | hp
            · exact b1 _ (b2 _ (b3 _ (b4 _ a5)))
            · exact b1 _ (b2 _ (b3 _ (b4 _ (b5 _ hp))))
  have e1 : @Ne Nat R (L + 1 + 1 + 1 + 1) := c1 _ (b2 _ (b3 _ (b4 _ a5)))
  have e2 : @Ne Nat R (L + 1 + 1 + 1) := c2 _ (b3 _ (b4 _ a5))
  have e3 : @Ne Nat R (L + 1 + 1) := c3 _ (b4 _ a5)
  have e4 : @Ne Nat R (L + 1) := c4 _ a5
  exact ⟨e1, e2, e3, e4, e1.symm, e2.symm, e3.symm, e4.symm, fun p hp => c1 _ (b2 _ (b3 _ (b4 _ (b5 _ hp)))), fun p hp => c2 _ (b3 _ (b4 _ (b5 _ hp))), fun p hp => c3 _ (b4 _ (b5 _ hp)), fun p hp => c4 _ (b5 _ hp), c5⟩
theorem with_iter {I1 : Addr} {it1 : Obj} {all l0 : List (Addr × Obj)} {T : List (Addr × Obj) → Prop} (D0 : Del I1 it1 all l0) (h : ∃ small, (∀ p ∈ small, p ∈ l0) ∧ T small) :
    ∃ small, (∀ p ∈ small, p ∈ all) ∧ ∃ nw0, small = (I1, it1) :: nw0 ∧ LCg.Off1 I1 nw0 ∧ T nw0 := by
  obtain ⟨a, b, c⟩ := D0.facts
  obtain ⟨sm, h1, h2⟩ := h
  refine ⟨(I1, it1) :: sm, fun p hp => ?_, sm, rfl, off1_ofD fun p hp => c p (h1 p hp), h2⟩
  rcases List.mem_cons.mp hp with rfl | hp
  · exact a
  · exact b p (h1 p hp)
theorem list2 {vs : List Value} {a b : Value} (h : vs.length = 2) (h0 : vs[0]? = some a) (h1 : vs[1]? = some b) : vs = [a, b] := List.ext_getElem? fun i => by
  rcases i with _ | _ | i
  · exact h0
  · exact h1
  · rw [List.getElem?_eq_none (by omega), List.getElem?_eq_none (by simp)]
theorem list3 {vs : List Value} {a b c : Value} (h : vs.length = 3) (h0 : vs[0]? = some a) (h1 : vs[1]? = some b) (h2 : vs[2]? = some c) : vs = [a, b, c] := List.ext_getElem? fun i => by
  rcases i with _ | _ | _ | i
  · exact h0
  · exact h1
  · exact h2
  · rw [List.getElem?_eq_none (by omega), List.getElem?_eq_none (by simp)]
theorem list4 {vs : List Value} {a b c d : Value} (h : vs.length = 4) (h0 : vs[0]? = some a) (h1 : vs[1]? = some b) (h2 : vs[2]? = some c) (h3 : vs[3]? = some d) : vs = [a, b, c, d] := List.ext_getElem? fun i => by
  rcases i with _ | _ | _ | _ | i
  · exact h0
  · exact h1
  · exact h2
  · exact h3
  · rw [List.getElem?_eq_none (by omega), List.getElem?_eq_none (by simp)]
theorem lt2 {j : Nat} (h : j < 2) : j = 0 ∨ j = 1 := by omega
theorem lt3 {j : Nat} (h : j < 3) : j = 0 ∨ j = 1 ∨ j = 2 := by omega
inductive Open4 (led : List (Addr × Obj)) (r : Addr) (p : Nat → Rat) (e : Nat) : Prop
  | mk (c : Nat) (a0 : Addr) (s0 u0 : Tok) (k0 : Nat) (a1 : Addr) (s1 u1 : Tok) (k1 : Nat) (a2 : Addr) (s2 u2 : Tok) (k2 : Nat) (a3 : Addr) (s3 u3 : Tok) (k3 : Nat) (f0 : (r, listObj [.ref a0, .ref a1, .ref a2, .ref a3] c) ∈ led) (f1 : (a0, tup2 (p 0).num s0 (p 0).den u0 k0) ∈ led) (f2 : (a1, tup2 (p 1).num s1 (p 1).den u1 k1) ∈ led) (f3 : (a2, tup2 (p 2).num s2 (p 2).den u2 k2) ∈ led) (f4 : (a3, tup2 (p 3).num s3 (p 3).den u3 k3) ∈ led) (f5 : Sz e (p 0)) (f6 : Sz e (p 1)) (f7 : Sz e (p 2)) (f8 : Sz e (p 3)) : Open4 led r p e
theorem RowAt.open4 {led : List (Addr × Obj)} {r : Addr} {p : Nat → Rat} {e : Nat} (h : RowAt 4 led r p e) : Open4 led r p e := by
  obtain ⟨as, c, h1, h2, h3⟩ := h
  obtain ⟨a0, s0, u0, k0, g0, m0, z0⟩ := h3 0 (by decide)
  obtain ⟨a1, s1, u1, k1, g1, m1, z1⟩ := h3 1 (by decide)
  obtain ⟨a2, s2, u2, k2, g2, m2, z2⟩ := h3 2 (by decide)
  obtain ⟨a3, s3, u3, k3, g3, m3, z3⟩ := h3 3 (by decide)
  obtain rfl := list4 h2 g0 g1 g2 g3
  exact ⟨c, a0, s0, u0, k0, a1, s1, u1, k1, a2, s2, u2, k2, a3, s3, u3, k3, h1, m0, m1, m2, m3, z0, z1, z2, z3⟩
theorem RowsAt.of2 {m : Nat} {led : List (Addr × Obj)} {P : Nat → Nat → Rat} {E : Nat → Nat} {r0 r1 : Addr} (h0 : RowAt m led r0 (P 0) (E 0)) (h1 : RowAt m led r1 (P 1) (E 1)) : RowsAt 2 m led [.ref r0, .ref r1] P E := by
  refine ⟨rfl, fun i hi => ?_⟩
  rcases lt2 hi with rfl | rfl
  · exact ⟨r0, rfl, h0⟩
  · exact ⟨r1, rfl, h1⟩
inductive Opens2 (m : Nat) (led : List (Addr × Obj)) (vs : List Value) (P : Nat → Nat → Rat) (E : Nat → Nat) : Prop
  | mk (r0 r1 : _) (f0 : vs = [.ref r0, .ref r1]) (f1 : RowAt m led r0 (P 0) (E 0)) (f2 : RowAt m led r1 (P 1) (E 1)) : Opens2 m led vs P E
theorem RowsAt.open2 {m : Nat} {led : List (Addr × Obj)} {vs : List Value} {P : Nat → Nat → Rat} {E : Nat → Nat} (h : RowsAt 2 m led vs P E) : Opens2 m led vs P E := by
  obtain ⟨h2, h3⟩ := h
  obtain ⟨r0, g0, m0⟩ := h3 0 (by decide)
  obtain ⟨r1, g1, m1⟩ := h3 1 (by decide)
  obtain rfl := list2 h2 g0 g1
  exact ⟨r0, r1, rfl, m0, m1⟩
inductive Opens3 (m : Nat) (led : List (Addr × Obj)) (vs : List Value) (P : Nat → Nat → Rat) (E : Nat → Nat) : Prop
  | mk (r0 r1 r2 : _) (f0 : vs = [.ref r0, .ref r1, .ref r2]) (f1 : RowAt m led r0 (P 0) (E 0)) (f2 : RowAt m led r1 (P 1) (E 1)) (f3 : RowAt m led r2 (P 2) (E 2)) : Opens3 m led vs P E
theorem RowsAt.open3 {m : Nat} {led : List (Addr × Obj)} {vs : List Value} {P : Nat → Nat → Rat} {E : Nat → Nat} (h : RowsAt 3 m led vs P E) : Opens3 m led vs P E := by
  obtain ⟨h2, h3⟩ := h
  obtain ⟨r0, g0, m0⟩ := h3 0 (by decide)
  obtain ⟨r1, g1, m1⟩ := h3 1 (by decide)
  obtain ⟨r2, g2, m2⟩ := h3 2 (by decide)
  obtain rfl := list3 h2 g0 g1 g2
  exact ⟨r0, r1, r2, rfl, m0, m1, m2⟩
end Mine
end
section
open PySem PySem.W PyProof.Rows PySem.Calls PySem.Spec PyProof.V
set_option Elab.async false
set_option maxRecDepth 100000
set_option maxHeartbeats 8000000
namespace Mine
def Items (K : Nat → Value → List (Addr × Obj) → Prop) (i : Nat) (ys : List Value) (led : List (Addr × Obj)) : Prop :=
  ys.length = i ∧ ∀ j, j < i → ∃ y, ys[j]? = some y ∧ K j y led
def MonoK (K : Nat → Value → List (Addr × Obj) → Prop) : Prop := ∀ j y l l', K j y l → (∀ p ∈ l, p ∈ l') → K j y l'
def Away (tl base : List (Addr × Obj)) : Prop := ∀ p ∈ tl, ∀ q ∈ base, q.1 ≠ p.1
theorem Items.nil {K : Nat → Value → List (Addr × Obj) → Prop} {l : List (Addr × Obj)} : Items K 0 [] l := ⟨rfl, fun _ h => absurd h (Nat.not_lt_zero _)⟩
theorem Items.sub {K : Nat → Value → List (Addr × Obj) → Prop} (hK : MonoK K) {i : Nat} {ys : List Value} {l l' : List (Addr × Obj)} (h : Items K i ys l) (hs : ∀ p ∈ l, p ∈ l') : Items K i ys l' :=
  ⟨h.1, fun j hj => let ⟨y, a, b⟩ := h.2 j hj; ⟨y, a, hK _ _ _ _ b hs⟩⟩
theorem Items.snoc {K : Nat → Value → List (Addr × Obj) → Prop} (hK : MonoK K) {i : Nat} {ys : List Value} {y : Value} {l l' : List (Addr × Obj)} (h : Items K i ys l) (hs : ∀ p ∈ l, p ∈ l') (hy : K i y l') : Items K (i + 1) (ys ++ [y]) l' := by
  refine ⟨by rw [List.length_append, h.1]; rfl, fun j hj => ?_⟩
  by_cases e : j = i
  · subst e
    refine ⟨y, ?_, hy⟩
    rw [List.getElem?_append_right (Nat.le_of_eq h.1), h.1, Nat.sub_self]; rfl
  · obtain ⟨z, a, b⟩ := h.2 j (by omega)
    refine ⟨z, ?_, hK _ _ _ _ b hs⟩
    rw [List.getElem?_append_left (by rw [h.1]; omega)]; exact a
theorem Away.nil {b : List (Addr × Obj)} : Away [] b := fun _ h => nomatch h
theorem Away.app {t1 t2 b : List (Addr × Obj)} (h1 : ∀ p ∈ t1, ∀ q ∈ t2 ++ b, q.1 ≠ p.1) (h2 : Away t2 b) : Away (t1 ++ t2) b := fun p hp q hq => by
  rcases List.mem_append.mp hp with hp | hp
  · exact h1 p hp q (List.mem_append_right _ hq)
  · exact h2 p hp q hq
section
variable {prog : Program} {w : World} {A : Around} {s : Shared} {h₀ : Heap} {L : Addr} {m : Str → Option Value} {env : Env} {elt : PySem.Expr} {x : Str} {scope : Scope} {cl : List (Str × Addr)}
  {S : List (Addr × Obj) → Prop} {P : Nat → Value → Prop} {Fin : List Value → List (Addr × Obj) → Prop} {news : List (Addr × Obj)}
theorem CompRest.inv (J : Nat → List Value → List (Addr × Obj) → Prop) {n : Nat}
    (step : ∀ i ys nw, i < n → J i ys nw → ∀ v I oI C oC D m₂ h tk (E' : Value → Shared → Prop), P i v → LCg.NsObj oC m₂ → m₂ x = some v → Fr h₀ L h m → News h₀ L h ((I, oI) :: (C, oC) :: (D, LCg.lst ys) :: nw) → LCg.Off3 I C D nw → ((@Ne Nat I C) ∧ (@Ne Nat I D) ∧ (@Ne Nat C D)) →
      wpAny (model prog w) A (eval elt (compEnvC scope cl C env)) (LCg.CompEnd h₀ L m { s with heap := h, toks := tk } I oI C oC D (LCg.lst ys) S (fun y nw' => J (i + 1) (ys ++ [y]) nw')) E' { s with heap := h, toks := tk })
    (fin : ∀ ys nw, J n ys nw → Fin ys nw) : ∀ (k i : Nat) (ys : List Value) (nw : List (Addr × Obj)), i + k = n → J i ys nw → LCg.CompRest prog w A h₀ L m env elt x scope cl s S P Fin k i ys nw
  | 0, i, ys, nw, e, j => fin ys nw (by rw [← e]; exact j)
  | k + 1, i, ys, nw, e, j => fun v I oI C oC D m₂ h tk E' h1 h2 h3 h4 h5 h6 h7 =>
    wpAny_mono (step i ys nw (by omega) j v I oI C oC D m₂ h tk E' h1 h2 h3 h4 h5 h6 h7)
      (fun _ _ ⟨h', tk', news', a, b, c, d, f, g⟩ => ⟨h', tk', news', a, b, c, d, f, CompRest.inv J step fin k (i + 1) _ _ (by omega) g⟩) fun _ _ e => e
theorem away1 {a : Addr} {o : Obj} {l b : List (Addr × Obj)} (h : AllLt a l) (hs : ∀ p ∈ b, p ∈ l) : Away [(a, o)] b := fun p hp q hq => by
  obtain rfl := List.mem_singleton.mp hp
  exact ne_of_allLt_sub h hs q hq
theorem away2 {D : Addr} {o : Obj} {tl b base : List (Addr × Obj)} (h1 : LCg.Off1 D (tl ++ base)) (h2 : Away tl base) (hs : ∀ p ∈ b, p ∈ base) : Away ((D, o) :: tl) b := fun p hp q hq => by
  rcases List.mem_cons.mp hp with rfl | hp
  · exact off1_mem h1 q (List.mem_append_right _ (hs q hq))
  · exact h2 p hp q (hs q hq)
inductive ItemEnd (h₀ : Heap) (L : Addr) (m : Str → Option Value) (s₁ : Shared) (base4 : List (Addr × Obj)) (K : Value → List (Addr × Obj) → Prop) (tl : List (Addr × Obj)) (y : Value) (s₂ : Shared) : Prop
  | mk (h' : Heap) (tk : Nat) (all small : List (Addr × Obj)) (e : s₂ = { s₁ with heap := h', toks := tk }) (F : Fr h₀ L h' m) (N : News h₀ L h' all) (hb : ∀ p ∈ base4, p ∈ all) (hs : ∀ p ∈ small, p ∈ all) (ho : Away small base4) (hk : K y (small ++ tl)) : ItemEnd h₀ L m s₁ base4 K tl y s₂
theorem ItemEnd.intro {s₁ : Shared} {base4 : List (Addr × Obj)} {K : Value → List (Addr × Obj) → Prop} {tl all : List (Addr × Obj)} {y : Value} {h' : Heap} {tk : Nat} (small : List (Addr × Obj)) (F : Fr h₀ L h' m) (N : News h₀ L h' all) (hb : ∀ p ∈ base4, p ∈ all) (hs : ∀ p ∈ small, p ∈ all) (ho : Away small base4) (hk : K y (small ++ tl)) :
    ItemEnd h₀ L m s₁ base4 K tl y { s₁ with heap := h', toks := tk } := ⟨h', tk, all, small, rfl, F, N, hb, hs, ho, hk⟩
theorem ItemEnd.one {s₁ : Shared} {base4 : List (Addr × Obj)} {K : Value → List (Addr × Obj) → Prop} {tl : List (Addr × Obj)} {y : Value} {h' : Heap} {tk : Nat} {a : Addr} {o : Obj} (F : Fr h₀ L h' m) (N : News h₀ L h' ((a, o) :: base4)) (l : AllLt a base4) (hk : K y ((a, o) :: tl)) :
    ItemEnd h₀ L m s₁ base4 K tl y { s₁ with heap := h', toks := tk } :=
  .intro [(a, o)] F N (fun _ hp => .tail _ hp) (fun _ hp => by obtain rfl := List.mem_singleton.mp hp; exact .head _) (away1 l fun _ hp => hp) hk
theorem ItemEnd.two {s₁ : Shared} {base4 : List (Addr × Obj)} {K : Value → List (Addr × Obj) → Prop} {tl : List (Addr × Obj)} {y : Value} {h' : Heap} {tk : Nat} {a : Addr} {o : Obj} {x : Addr × Obj} (F : Fr h₀ L h' m) (N : News h₀ L h' ((a, o) :: x :: base4)) (l : AllLt a (x :: base4)) (hk : K y ((a, o) :: tl)) :
    ItemEnd h₀ L m s₁ base4 K tl y { s₁ with heap := h', toks := tk } :=
  .intro [(a, o)] F N (fun _ hp => .tail _ (.tail _ hp)) (fun _ hp => by obtain rfl := List.mem_singleton.mp hp; exact .head _) (away1 l fun _ hp => .tail _ hp) hk
theorem comp_items (K : Nat → Value → List (Addr × Obj) → Prop) (hK : MonoK K) {n : Nat} (hSm : ∀ l l', (∀ p ∈ l, p ∈ l') → S l → S l') (hS : S news)
    (step : ∀ i ys tl, i < n → Items K i ys tl → Away tl news → ∀ v I oI C oC D m₂ h tk (E' : Value → Shared → Prop), P i v → LCg.NsObj oC m₂ → m₂ x = some v → Fr h₀ L h m → News h₀ L h ((I, oI) :: (C, oC) :: (D, LCg.lst ys) :: (tl ++ news)) → LCg.Off3 I C D (tl ++ news) → Ne3 I C D →
      wpAny (model prog w) A (eval elt (compEnvC scope cl C env)) (ItemEnd h₀ L m { s with heap := h, toks := tk } ((I, oI) :: (C, oC) :: (D, LCg.lst ys) :: (tl ++ news)) (K i) tl) E' { s with heap := h, toks := tk })
    (fin : ∀ ys tl, Items K n ys tl → Away tl news → Fin ys (tl ++ news)) : LCg.CompRest prog w A h₀ L m env elt x scope cl s S P Fin n 0 [] news :=
  CompRest.inv (fun i ys nw => ∃ tl, nw = tl ++ news ∧ Away tl news ∧ S nw ∧ Items K i ys tl)
    (fun i ys nw hi ⟨tl, e, ap, hSn, it⟩ v I oI C oC D m₂ h tk E' h1 h2 h3 h4 h5 h6 h7 => by
      subst e
      refine wpAny_mono (step i ys tl hi it ap v I oI C oC D m₂ h tk E' h1 h2 h3 h4 h5 h6 (Ne3.mk' h7)) (fun y s₂ hy => ?_) fun _ _ e => e
      obtain ⟨h', tk', all, small, e, F, N, hb, hs, ho, hk⟩ := hy
      obtain ⟨t9, a9, b9, c9⟩ := split_ledger N hb
      have o6 := LCg.Off3.mem h6
      refine ⟨h', tk', t9 ++ (tl ++ news), e, F, fun p hp => N p ?_, LCg.Off3.of fun p hp => ?_, hSm _ _ (fun p hp => List.mem_append_right _ hp) hSn, t9 ++ tl, (List.append_assoc _ _ _).symm, Away.app (fun p hp q hq => c9 p hp q (.tail _ (.tail _ (.tail _ hq)))) ap, hSm _ _ (fun p hp => List.mem_append_right _ hp) hSn, it.snoc hK (fun p hp => List.mem_append_right _ hp) (hK _ _ _ _ hk fun p hp => ?_)⟩
      · rcases List.mem_cons.mp hp with rfl | hp
        · exact hb _ (.head _)
        · rcases List.mem_cons.mp hp with rfl | hp
          · exact hb _ (.tail _ (.head _))
          · rcases List.mem_cons.mp hp with rfl | hp
            · exact hb _ (.tail _ (.tail _ (.head _)))
            · rcases List.mem_append.mp hp with hp | hp
              · exact b9 p (List.mem_append_left _ hp)
              · exact hb p (.tail _ (.tail _ (.tail _ hp)))
      · rcases List.mem_append.mp hp with hp | hp
        · exact ⟨Ne.symm (c9 p hp (I, oI) (.head _)), Ne.symm (c9 p hp (C, oC) (.tail _ (.head _))), Ne.symm (c9 p hp (D, LCg.lst ys) (.tail _ (.tail _ (.head _))))⟩
        · exact o6 p hp
      · rcases List.mem_append.mp hp with hp | hp
        · rcases List.mem_append.mp (a9 p (hs p hp)) with h | h
          · exact List.mem_append_left _ h
          · exact absurd rfl (ho p hp p h)
        · exact List.mem_append_right _ hp)
    (fun ys nw ⟨tl, e, ap, _, it⟩ => by subst e; exact fin ys tl it ap) n 0 [] news (Nat.zero_add _) ⟨[], rfl, Away.nil, hS, Items.nil⟩
theorem src_list {Fin : Shared → List Value → List (Addr × Obj) → Prop} {ax : Addr} {vs : List Value} {k n : Nat} {s₁ : Shared}
    (hh : A.handled = none) (F : Fr h₀ L s₁.heap m) (N : News h₀ L s₁.heap news) (hm : (ax, listObj vs k) ∈ news) (hl : vs.length = n) (hsz : n ≤ 100)
    (h : ∀ g, LCg.CompRest prog w A h₀ L m env elt x scope cl { s₁ with heap := g } (LCg.SrcAt h₀ ax vs.toArray) (fun i v => vs[i]? = some v) (Fin { s₁ with heap := g }) n 0 [] news) :
    LCg.CompSrc prog w A h₀ L m env elt x scope cl Fin (.ref ax) s₁ := by
  subst hl
  have e : (fun (i : Nat) (v : Value) => vs.toArray[i]? = some v) = fun i v => vs[i]? = some v := by funext i v; rw [List.getElem?_toArray]
  refine LCg.CompSrc.ledger hh F N hm (Nat.le_trans (Nat.le_of_eq List.size_toArray) (Nat.le_trans hsz (by decide))) fun g => ?_
  rw [e, List.size_toArray]
  exact h g
theorem comp_list {Fin : Shared → List Value → List (Addr × Obj) → Prop} {ax : Addr} {vs : List Value} {k n : Nat} {s₁ : Shared} (K : Nat → Value → List (Addr × Obj) → Prop) (hK : MonoK K)
    (hh : A.handled = none) (F : Fr h₀ L s₁.heap m) (N : News h₀ L s₁.heap news) (hm : (ax, listObj vs k) ∈ news) (hl : vs.length = n) (hsz : n ≤ 100)
    (step : ∀ i ys tl, i < n → Items K i ys tl → Away tl news → ∀ v I oI C oC D m₂ h tk (E' : Value → Shared → Prop), vs[i]? = some v → LCg.NsObj oC m₂ → m₂ x = some v → Fr h₀ L h m → News h₀ L h ((I, oI) :: (C, oC) :: (D, LCg.lst ys) :: (tl ++ news)) → LCg.Off3 I C D (tl ++ news) → Ne3 I C D →
      wpAny (model prog w) A (eval elt (compEnvC scope cl C env)) (ItemEnd h₀ L m { s₁ with heap := h, toks := tk } ((I, oI) :: (C, oC) :: (D, LCg.lst ys) :: (tl ++ news)) (K i) tl) E' { s₁ with heap := h, toks := tk })
    (fin : ∀ g ys tl, Items K n ys tl → Away tl news → Fin { s₁ with heap := g } ys (tl ++ news)) : LCg.CompSrc prog w A h₀ L m env elt x scope cl Fin (.ref ax) s₁ :=
  src_list hh F N hm hl hsz fun g => comp_items K hK (fun _ _ hs h => h.elim .inl fun ⟨o, a, b⟩ => .inr ⟨o, hs _ a, b⟩) (.inr ⟨_, hm, rfl, _, rfl⟩) step (fin g)
theorem comp_range {Fin : Shared → List Value → List (Addr × Obj) → Prop} {r : Addr} {n : Nat} {t u v : Tok} {s₁ : Shared} (K : Nat → Value → List (Addr × Obj) → Prop) (hK : MonoK K)
    (hh : A.handled = none) (F : Fr h₀ L s₁.heap m) (N : News h₀ L s₁.heap news) (hr : IsRange s₁.heap r 0 (n : Int) 1 t u v) (hsz : n ≤ 100)
    (step : ∀ i ys tl, i < n → Items K i ys tl → Away tl news → ∀ t I oI C oC D m₂ h tk (E' : Value → Shared → Prop), LCg.NsObj oC m₂ → m₂ x = some (.int (i : Int) t) → Fr h₀ L h m → News h₀ L h ((I, oI) :: (C, oC) :: (D, LCg.lst ys) :: (tl ++ news)) → LCg.Off3 I C D (tl ++ news) → Ne3 I C D →
      wpAny (model prog w) A (eval elt (compEnvC scope cl C env)) (ItemEnd h₀ L m { s₁ with heap := h, toks := tk } ((I, oI) :: (C, oC) :: (D, LCg.lst ys) :: (tl ++ news)) (K i) tl) E' { s₁ with heap := h, toks := tk })
    (fin : ∀ g ys tl, Items K n ys tl → Away tl news → Fin { s₁ with heap := g } ys (tl ++ news)) : LCg.CompSrc prog w A h₀ L m env elt x scope cl Fin (.ref r) s₁ :=
  LCg.CompSrc.range hh F N hr (small_range (by omega) (by omega) (by omega) (by omega)) (by rw [size_up (by omega)]; omega) (Nat.le_trans hsz (by decide)) fun g => comp_items K hK (fun _ _ _ _ => trivial) trivial
    (fun i ys tl hi it ap v I oI C oC D m₂ h tk E' ⟨t, e⟩ hC hx => step i ys tl hi it ap t I oI C oC D m₂ h tk E' hC (by rw [hx, e, Int.zero_add])) (fin g)
theorem FinE.perm {s : Shared} {Q : Value → Shared → Prop} {ys : List Value} {nw nw' : List (Addr × Obj)} (hs : ∀ p ∈ nw', p ∈ nw) (h : LCg.FinE h₀ L m s Q ys nw') : LCg.FinE h₀ L m s Q ys nw := fun D hp tk F N o =>
  h D hp tk F (fun p hp => N p ((List.mem_cons.mp hp).elim (fun e => e ▸ .head _) fun hp => .tail _ (hs p hp))) (off1_ofD fun p hp => off1_mem o p (hs p hp))
theorem FinA.perm {s : Shared} {y : Str} {Q : Flow → Shared → Prop} {ys : List Value} {nw nw' : List (Addr × Obj)} (hs : ∀ p ∈ nw', p ∈ nw) (h : LCg.FinA h₀ L m s y Q ys nw') : LCg.FinA h₀ L m s y Q ys nw := fun D hp tk F N o =>
  h D hp tk F (fun p hp => N p ((List.mem_cons.mp hp).elim (fun e => e ▸ .head _) fun hp => .tail _ (hs p hp))) (off1_ofD fun p hp => off1_mem o p (hs p hp))
theorem list_led {s : Shared} {as : List Value} {c n : Nat} {l : Addr} {Q E : Value → Shared → Prop} (F : Fr h₀ L s.heap m) (N : News h₀ L s.heap news) (hb : (l, listObj as c) ∈ news) (hi : as.length = n) (hl : n ≤ 100)
    (h : ∀ D c h', Fr h₀ L h' m → News h₀ L h' ((D, listObj as c) :: news) → (∀ q ∈ news, q.1 < D) → Q (.ref D) { s with heap := h' }) : wpAny (model prog w) A (call (.type "list") [.ref l]) Q E s :=
  kup_listOf F N hb rfl h (Nat.le_trans (Nat.le_of_eq hi) (Nat.le_trans hl (by decide)))
inductive PressEnd (h₀ : Heap) (L : Addr) (m : Str → Option Value) (s₁ : Shared) (I : Addr) (oI : Obj) (C : Addr) (oC : Obj) (D : Addr) (oD : Obj) (P S : Addr) (c0 : Nat) (k d : Int) (K : Value → List (Addr × Obj) → Prop) (tl nw : List (Addr × Obj)) (y : Value) (s₂ : Shared) : Prop
  | mk (h' : Heap) (tk : Nat) (all small : List (Addr × Obj)) (k' : Int) (t' : Tok) (e : s₂ = { s₁ with heap := h', toks := tk }) (F : Fr h₀ L h' m) (N : News h₀ L h' all) (hb : ∀ p ∈ (I, oI) :: (C, oC) :: (D, oD) :: (P, pressObj S k' t' c0) :: nw, p ∈ all) (hs : ∀ p ∈ small, p ∈ all) (ho : Away small ((I, oI) :: (C, oC) :: (D, oD) :: (P, pressObj S k' t' c0) :: nw)) (h1 : k ≤ k') (h2 : k' ≤ k + d) (hk : K y (small ++ tl)) : PressEnd h₀ L m s₁ I oI C oC D oD P S c0 k d K tl nw y s₂
theorem PressEnd.intro {s₁ : Shared} {I C D P S : Addr} {oI oC oD : Obj} {c0 : Nat} {k d : Int} {K : Value → List (Addr × Obj) → Prop} {tl nw all : List (Addr × Obj)} {y : Value} {h' : Heap} {tk : Nat} {k' : Int} {t' : Tok} (small : List (Addr × Obj)) (F : Fr h₀ L h' m) (N : News h₀ L h' all) (hb : ∀ p ∈ (I, oI) :: (C, oC) :: (D, oD) :: (P, pressObj S k' t' c0) :: nw, p ∈ all) (hs : ∀ p ∈ small, p ∈ all) (ho : Away small ((I, oI) :: (C, oC) :: (D, oD) :: (P, pressObj S k' t' c0) :: nw)) (h1 : k ≤ k') (h2 : k' ≤ k + d) (hk : K y (small ++ tl)) :
    PressEnd h₀ L m s₁ I oI C oC D oD P S c0 k d K tl nw y { s₁ with heap := h', toks := tk } := ⟨h', tk, all, small, k', t', rfl, F, N, hb, hs, ho, h1, h2, hk⟩
theorem PressEnd.one {s₁ : Shared} {a : Addr} {o : Obj} {I C D P S : Addr} {oI oC oD : Obj} {c0 : Nat} {k d : Int} {K : Value → List (Addr × Obj) → Prop} {tl nw : List (Addr × Obj)} {y : Value} {h' : Heap} {tk : Nat} {k' : Int} {t' : Tok} (F : Fr h₀ L h' m) (N : News h₀ L h' ((a, o) :: (I, oI) :: (C, oC) :: (D, oD) :: (P, pressObj S k' t' c0) :: nw)) (l : AllLt a ((I, oI) :: (C, oC) :: (D, oD) :: (P, pressObj S k' t' c0) :: nw)) (h1 : k ≤ k') (h2 : k' ≤ k + d) (hk : K y ((a, o) :: tl)) :
    PressEnd h₀ L m s₁ I oI C oC D oD P S c0 k d K tl nw y { s₁ with heap := h', toks := tk } :=
  .intro [(a, o)] F N (fun _ hp => .tail _ hp) (fun _ hp => by obtain rfl := List.mem_singleton.mp hp; exact .head _) (away1 l fun _ hp => hp) h1 h2 hk
theorem PressEnd.list {s₁ : Shared} {D' : Addr} {o' : Obj} {I C D P S : Addr} {oI oC oD : Obj} {c0 : Nat} {k d : Int} {K : Value → List (Addr × Obj) → Prop} {tl2 tl nw : List (Addr × Obj)} {y : Value} {h' : Heap} {tk : Nat} {k' : Int} {t' : Tok} (F : Fr h₀ L h' m) (N : News h₀ L h' ((D', o') :: (P, pressObj S k' t' c0) :: (tl2 ++ (I, oI) :: (C, oC) :: (D, oD) :: nw)))
    (o1 : (@Ne Nat P D') ∧ LCg.Off1 D' (tl2 ++ (I, oI) :: (C, oC) :: (D, oD) :: nw)) (ap : Away tl2 ((I, oI) :: (C, oC) :: (D, oD) :: nw)) (oP : ∀ p ∈ tl2 ++ (I, oI) :: (C, oC) :: (D, oD) :: nw, p.1 ≠ P) (h1 : k ≤ k') (h2 : k' ≤ k + d) (hk : K y ((D', o') :: (tl2 ++ tl))) :
    PressEnd h₀ L m s₁ I oI C oC D oD P S c0 k d K tl nw y { s₁ with heap := h', toks := tk } := by
  refine .intro (t' := t') ((D', o') :: tl2) F N (fun p hp => ?_) (fun p hp => ?_) (fun p hp q hq => ?_) h1 h2 hk
  · rcases List.mem_cons.mp hp with rfl | hp
    · exact .tail _ (.tail _ (List.mem_append_right _ (.head _)))
    rcases List.mem_cons.mp hp with rfl | hp
    · exact .tail _ (.tail _ (List.mem_append_right _ (.tail _ (.head _))))
    rcases List.mem_cons.mp hp with rfl | hp
    · exact .tail _ (.tail _ (List.mem_append_right _ (.tail _ (.tail _ (.head _)))))
    rcases List.mem_cons.mp hp with rfl | hp
    · exact .tail _ (.head _)
    exact .tail _ (.tail _ (List.mem_append_right _ (.tail _ (.tail _ (.tail _ hp)))))
  · rcases List.mem_cons.mp hp with rfl | hp
    · exact .head _
    exact .tail _ (.tail _ (List.mem_append_left _ hp))
  · have hq' : q = (P, pressObj S k' t' c0) ∨ q ∈ (I, oI) :: (C, oC) :: (D, oD) :: nw := by
      simp only [List.mem_cons] at hq ⊢; rcases hq with h | h | h | h | h <;> simp [h]
    rcases List.mem_cons.mp hp with rfl | hp
    · rcases hq' with rfl | hq
      · exact o1.1
      · exact off1_mem o1.2 q (List.mem_append_right _ hq)
    · rcases hq' with rfl | hq
      · exact Ne.symm (oP p (List.mem_append_left _ hp))
      · exact ap p hp q hq
theorem comp_press (K : Nat → Value → List (Addr × Obj) → Prop) (d : Int) (hK : MonoK K) {n : Nat} {Pp Sp : Addr} {c0 : Nat} {k0 : Int} {t0 : Tok} (hS : ∀ l, S l) (hoff : ∀ p ∈ news, p.1 ≠ Pp)
    (step : ∀ i ys tl k t, i < n → Items K i ys tl → Away tl news → (∀ p ∈ tl ++ news, p.1 ≠ Pp) → k0 ≤ k → k ≤ k0 + d * i → ∀ v I oI C oC D m₂ h tk (E' : Value → Shared → Prop), P i v → LCg.NsObj oC m₂ → m₂ x = some v → Fr h₀ L h m → News h₀ L h ((I, oI) :: (C, oC) :: (D, LCg.lst ys) :: (Pp, pressObj Sp k t c0) :: (tl ++ news)) → LCg.Off3 I C D ((Pp, pressObj Sp k t c0) :: (tl ++ news)) → Ne3 I C D →
      wpAny (model prog w) A (eval elt (compEnvC scope cl C env)) (PressEnd h₀ L m { s with heap := h, toks := tk } I oI C oC D (LCg.lst ys) Pp Sp c0 k d (K i) tl (tl ++ news)) E' { s with heap := h, toks := tk })
    (fin : ∀ ys tl k t, Items K n ys tl → Away tl news → (∀ p ∈ tl ++ news, p.1 ≠ Pp) → k0 ≤ k → k ≤ k0 + d * n → Fin ys ((Pp, pressObj Sp k t c0) :: (tl ++ news))) : LCg.CompRest prog w A h₀ L m env elt x scope cl s S P Fin n 0 [] ((Pp, pressObj Sp k0 t0 c0) :: news) :=
  CompRest.inv (fun i ys nw => ∃ tl k t, nw = (Pp, pressObj Sp k t c0) :: (tl ++ news) ∧ Away tl news ∧ (∀ p ∈ tl ++ news, p.1 ≠ Pp) ∧ k0 ≤ k ∧ k ≤ k0 + d * i ∧ Items K i ys tl)
    (fun i ys nw hi ⟨tl, k, t, e, ap, oP, hk1, hk2, it⟩ v I oI C oC D m₂ h tk E' h1 h2 h3 h4 h5 h6 h7 => by
      subst e
      refine wpAny_mono (step i ys tl k t hi it ap oP hk1 hk2 v I oI C oC D m₂ h tk E' h1 h2 h3 h4 h5 h6 (Ne3.mk' h7)) (fun y s₂ hy => ?_) fun _ _ e => e
      obtain ⟨h', tk', all, small, k', t', e, F, N, hb, hs, ho, g1, g2, hk⟩ := hy
      obtain ⟨t9, a9, b9, c9⟩ := split_ledger N hb
      have o6 := LCg.Off3.mem h6
      have o6P := o6 _ (.head _)
      refine ⟨h', tk', (Pp, pressObj Sp k' t' c0) :: (t9 ++ (tl ++ news)), e, F, fun p hp => N p ?_, LCg.Off3.of fun p hp => ?_, hS _, t9 ++ tl, k', t', by rw [List.append_assoc], Away.app (fun p hp q hq => c9 p hp q (.tail _ (.tail _ (.tail _ (.tail _ hq))))) ap, fun p hp => ?_, by omega, ?_, it.snoc hK (fun p hp => List.mem_append_right _ hp) (hK _ _ _ _ hk fun p hp => ?_)⟩
      · rcases List.mem_cons.mp hp with rfl | hp
        · exact hb _ (.head _)
        · rcases List.mem_cons.mp hp with rfl | hp
          · exact hb _ (.tail _ (.head _))
          · rcases List.mem_cons.mp hp with rfl | hp
            · exact hb _ (.tail _ (.tail _ (.head _)))
            · rcases List.mem_cons.mp hp with rfl | hp
              · exact hb _ (.tail _ (.tail _ (.tail _ (.head _))))
              · rcases List.mem_append.mp hp with hp | hp
                · exact b9 p (List.mem_append_left _ hp)
                · exact hb p (.tail _ (.tail _ (.tail _ (.tail _ hp))))
      · rcases List.mem_cons.mp hp with rfl | hp
        · exact o6P
        · rcases List.mem_append.mp hp with hp | hp
          · exact ⟨Ne.symm (c9 p hp (I, oI) (.head _)), Ne.symm (c9 p hp (C, oC) (.tail _ (.head _))), Ne.symm (c9 p hp (D, LCg.lst ys) (.tail _ (.tail _ (.head _))))⟩
          · exact o6 p (.tail _ hp)
      · rw [List.append_assoc] at hp
        rcases List.mem_append.mp hp with hp | hp
        · exact Ne.symm (c9 p hp (Pp, pressObj Sp k' t' c0) (.tail _ (.tail _ (.tail _ (.head _)))))
        · exact oP p hp
      · have e1 : d * ((i + 1 : Nat) : Int) = d * (i : Int) + d := by rw [Int.natCast_succ, Int.mul_add, Int.mul_one]
        omega
      · rcases List.mem_append.mp hp with hp | hp
        · rcases List.mem_append.mp (a9 p (hs p hp)) with h | h
          · exact List.mem_append_left _ h
          · exact absurd rfl (ho p hp p h)
        · exact List.mem_append_right _ hp)
    (fun ys nw ⟨tl, k, t, e, ap, oP, hk1, hk2, it⟩ => by subst e; exact fin ys tl k t it ap oP hk1 hk2) n 0 [] _ (Nat.zero_add _) ⟨[], k0, t0, rfl, Away.nil, hoff, Int.le_refl _, by simp, Items.nil⟩
end
theorem Del.appA {a : Addr} {o : Obj} {tl base l : List (Addr × Obj)} (ap : Away tl base) (D : Del a o base l) : Del a o (tl ++ base) (tl ++ l) := by
  have h : ∀ p ∈ tl, p.1 ≠ a := fun p hp => Ne.symm (ap p hp (a, o) D.facts.1)
  clear ap
  induction tl with
  | nil => exact D
  | cons x tl ih => exact .tail (h x (.head _)) (ih fun p hp => h p (.tail _ hp))
theorem Upd.app {a : Addr} {o o' : Obj} {tl base l : List (Addr × Obj)} (ap : Away tl base) (D : Upd a o o' base l) : Upd a o o' (tl ++ base) (tl ++ l) := by
  have h : ∀ p ∈ tl, p.1 ≠ a := fun p hp => by
    obtain ⟨pre, post, e, -⟩ := D.split
    exact Ne.symm (ap p hp (a, o) (by rw [e]; exact List.mem_append_right _ (.head _)))
  clear ap
  induction tl with
  | nil => exact D
  | cons x tl ih => exact .tail (h x (.head _)) (ih fun p hp => h p (.tail _ hp))
theorem Away.all {a : Addr} {o : Obj} {tl base rest : List (Addr × Obj)} (ap : Away tl base) (hm : (a, o) ∈ base) (h : ∀ p ∈ rest, p.1 ≠ a) : ∀ p ∈ tl ++ rest, p.1 ≠ a := fun p hp => (List.mem_append.mp hp).elim (fun hp => Ne.symm (ap p hp _ hm)) (h p)
theorem mem_appl {α : Type} {l b : List α} : ∀ p ∈ l, p ∈ l ++ b := fun _ hp => List.mem_append_left _ hp
theorem mem_apps {α : Type} {tl l l' : List α} (h1 : ∀ p ∈ tl, p ∈ l') (h2 : ∀ p ∈ l, p ∈ l') : ∀ p ∈ tl ++ l, p ∈ l' := fun p hp => (List.mem_append.mp hp).elim (h1 p) (h2 p)
theorem perm_in {α : Type} {h tl l : List α} : ∀ p ∈ h ++ (tl ++ l), p ∈ tl ++ (h ++ l) := fun p hp => (List.mem_append.mp hp).elim (fun hp => List.mem_append_right _ (List.mem_append_left _ hp)) fun hp => (List.mem_append.mp hp).elim (fun hp => List.mem_append_left _ hp) fun hp => List.mem_append_right _ (List.mem_append_right _ hp)
theorem perm4 {α : Type} {a b c d : α} {tl l : List α} : ∀ p ∈ a :: b :: c :: d :: (tl ++ l), p ∈ tl ++ a :: b :: c :: d :: l := perm_in (h := [a, b, c, d])
theorem perm7 {α : Type} {a b c d e f g : α} {tl l : List α} : ∀ p ∈ a :: b :: c :: d :: e :: f :: g :: (tl ++ l), p ∈ tl ++ a :: b :: c :: d :: e :: f :: g :: l := perm_in (h := [a, b, c, d, e, f, g])
theorem mem_app {α : Type} {l l' tl : List α} (h : ∀ p ∈ l, p ∈ l') : ∀ p ∈ l, p ∈ tl ++ l' := fun p hp => List.mem_append_right _ (h p hp)
def KRat (q : Nat → Rat) (e : Nat) (j : Nat) (y : Value) (led : List (Addr × Obj)) : Prop := ∃ a s u k, y = .ref a ∧ (a, tup2 (q j).num s (q j).den u k) ∈ led ∧ Sz e (q j)
theorem KRat.mono {q : Nat → Rat} {e : Nat} : MonoK (KRat q e) := fun _ _ _ _ ⟨a, s, u, k, h1, h2, h3⟩ hs => ⟨a, s, u, k, h1, hs _ h2, h3⟩
def KRow (m : Nat) (P : Nat → Nat → Rat) (e : Nat) (j : Nat) (y : Value) (led : List (Addr × Obj)) : Prop := ∃ r, y = .ref r ∧ RowAt m led r (P j) e
theorem KRow.mono {m : Nat} {P : Nat → Nat → Rat} {e : Nat} : MonoK (KRow m P e) := fun _ _ _ _ ⟨r, h1, h2⟩ hs => ⟨r, h1, h2.sub hs (fun _ _ => rfl) (Nat.le_refl _)⟩
theorem row_of {m : Nat} {q : Nat → Rat} {e c : Nat} {as : List Value} {r : Addr} {led : List (Addr × Obj)} (h : Items (KRat q e) m as led) (hr : (r, listObj as c) ∈ led) : RowAt m led r q e :=
  ⟨as, c, hr, h.1, fun j hj => let ⟨_, h1, a, s, u, k, h2, h3, h4⟩ := h.2 j hj; ⟨a, s, u, k, by rw [h1, h2], h3, h4⟩⟩
theorem rows_of {n m : Nat} {P : Nat → Nat → Rat} {e : Nat} {vs : List Value} {led : List (Addr × Obj)} (h : Items (KRow m P e) n vs led) : RowsAt n m led vs P (fun _ => e) :=
  ⟨h.1, fun j hj => let ⟨_, h1, r, h2, h3⟩ := h.2 j hj; ⟨r, by rw [h1, h2], h3⟩⟩
end Mine
end
section
open PySem PySem.W PyProof.Rows PySem.Calls PySem.Spec PyProof.V
set_option Elab.async false
set_option maxRecDepth 100000
set_option maxHeartbeats 8000000
namespace Mine
theorem wordsg16 : True := by
  k_with_none
  k_with "execs cons" => first | (k_here; k_gentoks) | ((with_reducible refine wpAny_execs_cons ?_); k_fold)
  k_with "k_mem" => ((repeat' (first | (with_reducible exact mq0) | ktr_member | (with_reducible exact mq1) | (with_reducible exact mq2) | (with_reducible exact mq3) | (with_reducible exact mq4) | (with_reducible exact mq5) | (with_reducible exact mq6) | (with_reducible exact mq7) | (with_reducible exact mq8) | (with_reducible exact mq9) | (with_reducible refine List.mem_append_right _ ?_) | (with_reducible refine mqt ?_))); done)
  k_with "mul_fits" => exact Fit.mul (by assumption) (by assumption)
  k_with "k_ne" => first | (with_reducible refine' neN ?oa_w11; (case oa_w11 => with_reducible assumption)) | (refine' ne_symN ?oa_w11; (case oa_w11 => with_reducible assumption)) | (refine' nsl1 ?oa_w11; (case oa_w11 => repeat' (first | exact Nat.le_refl _ | refine Nat.le_succ_of_le ?_))) | (refine' nsr1 ?oa_w11; (case oa_w11 => repeat' (first | exact Nat.le_refl _ | refine Nat.le_succ_of_le ?_))) | (refine' Ne3.ci ?oa_w11; (case oa_w11 => with_reducible assumption)) | (refine' Ne3.di ?oa_w11; (case oa_w11 => with_reducible assumption)) | (refine' Ne3.dc ?oa_w11; (case oa_w11 => with_reducible assumption)) | (refine' ne_lt ?oa_w11 ?ob_w11; (case oa_w11 => with_reducible assumption); (case ob_w11 => k_mem)) | (refine' ne_lt' ?oa_w11 ?ob_w11; (case oa_w11 => with_reducible assumption); (case ob_w11 => k_mem)) | (refine' ne_off1 ?oa_w11 ?ob_w11; (case oa_w11 => with_reducible assumption); (case ob_w11 => k_mem)) | (refine' ne_off1' ?oa_w11 ?ob_w11; (case oa_w11 => with_reducible assumption); (case ob_w11 => k_mem)) | (refine' ne_off3I ?oa_w11 ?ob_w11; (case oa_w11 => with_reducible assumption); (case ob_w11 => k_mem)) | (refine' ne_off3C ?oa_w11 ?ob_w11; (case oa_w11 => with_reducible assumption); (case ob_w11 => k_mem)) | (refine' ne_off3D ?oa_w11 ?ob_w11; (case oa_w11 => with_reducible assumption); (case ob_w11 => k_mem)) | (refine' ne_off3I' ?oa_w11 ?ob_w11; (case oa_w11 => with_reducible assumption); (case ob_w11 => k_mem)) | (refine' ne_off3C' ?oa_w11 ?ob_w11; (case oa_w11 => with_reducible assumption); (case ob_w11 => k_mem)) | (refine' ne_off3D' ?oa_w11 ?ob_w11; (case oa_w11 => with_reducible assumption); (case ob_w11 => k_mem)) | ((refine neN ?_); (try dsimp only); first | (with_reducible assumption) | (refine' ne_symN ?oa_w11; (case oa_w11 => with_reducible assumption)) | (refine' nsl1 ?oa_w11; (case oa_w11 => repeat' (first | exact Nat.le_refl _ | refine Nat.le_succ_of_le ?_))) | (refine' nsr1 ?oa_w11; (case oa_w11 => repeat' (first | exact Nat.le_refl _ | refine Nat.le_succ_of_le ?_))) | (refine' Ne3.ci ?oa_w11; (case oa_w11 => with_reducible assumption)) | (refine' Ne3.di ?oa_w11; (case oa_w11 => with_reducible assumption)) | (refine' Ne3.dc ?oa_w11; (case oa_w11 => with_reducible assumption)) | (refine' ne_lt ?oa_w11 ?ob_w11; (case oa_w11 => with_reducible assumption); (case ob_w11 => k_mem)) | (refine' ne_lt' ?oa_w11 ?ob_w11; (case oa_w11 => with_reducible assumption); (case ob_w11 => k_mem)) | (refine' ne_off1 ?oa_w11 ?ob_w11; (case oa_w11 => with_reducible assumption); (case ob_w11 => k_mem)) | (refine' ne_off1' ?oa_w11 ?ob_w11; (case oa_w11 => with_reducible assumption); (case ob_w11 => k_mem)) | (refine' ne_off3I ?oa_w11 ?ob_w11; (case oa_w11 => with_reducible assumption); (case ob_w11 => k_mem)) | (refine' ne_off3C ?oa_w11 ?ob_w11; (case oa_w11 => with_reducible assumption); (case ob_w11 => k_mem)) | (refine' ne_off3D ?oa_w11 ?ob_w11; (case oa_w11 => with_reducible assumption); (case ob_w11 => k_mem)) | (refine' ne_off3I' ?oa_w11 ?ob_w11; (case oa_w11 => with_reducible assumption); (case ob_w11 => k_mem)) | (refine' ne_off3C' ?oa_w11 ?ob_w11; (case oa_w11 => with_reducible assumption); (case ob_w11 => k_mem)) | (refine' ne_off3D' ?oa_w11 ?ob_w11; (case oa_w11 => with_reducible assumption); (case ob_w11 => k_mem)) | omega)
  k_with "k_all" => ((repeat' (first | (refine' ne_id ?oa_w12; (case oa_w12 => with_reducible assumption)) | (with_reducible refine' ne_cons ?_ ?_) | (with_reducible refine' List.forall_mem_cons.mpr ⟨?_, ?_⟩) | exact List.forall_mem_nil _ | (refine' ne_id ?oa_w12; (case oa_w12 => with_reducible assumption)) | (refine' tail_lt ?oa_w12 ?ob_w12; (case oa_w12 => with_reducible assumption); (case ob_w12 => kcj_all)) | (refine' tail_off1 ?oa_w12 ?ob_w12; (case oa_w12 => with_reducible assumption); (case ob_w12 => kcj_all)) | (refine' tail_off3I ?oa_w12 ?ob_w12; (case oa_w12 => with_reducible assumption); (case ob_w12 => kcj_all)) | (refine' tail_off3C ?oa_w12 ?ob_w12; (case oa_w12 => with_reducible assumption); (case ob_w12 => kcj_all)) | (refine' tail_off3D ?oa_w12 ?ob_w12; (case oa_w12 => with_reducible assumption); (case ob_w12 => kcj_all)) | (refine' ne_of_allLt_le ?oa_w12 ?ob_w12; (case oa_w12 => with_reducible assumption); (case ob_w12 => omega)) | k_ne)); done)
  k_with "k_upd" => ((repeat' (first | (with_reducible refine' Del.head ?_) | (with_reducible refine' Del.tail ?_ ?_) | (with_reducible refine' Upd.head ?_) | (with_reducible refine' Upd.tail ?_ ?_) | (with_reducible refine' UpdF.head ?_) | (with_reducible refine' UpdF.tail ?_ ?_) | k_all | k_ne)); done)
  k_with "kcj_all" => ((repeat' (first | (with_reducible exact mem_same) | exact List.forall_mem_nil _ | (with_reducible refine' sub_cons ?_ ?_) | (with_reducible refine' List.forall_mem_cons.mpr ⟨?_, ?_⟩) | (with_reducible refine' mem_step ?_) | k_mem)); done)
  k_with "exec For Name Name cons nil" => (k_here; (rename Fr _ _ _ _ => lF'_w21); (with_unfolding_all refine' For_invVF lF'_w21 ?k1_w21 ?k2_w21 ?_; (case k1_w21 => exact rfl); (case k2_w21 => exact rfl); k_whole); l_hasStore)
  k_with "exec For Name Call cons nil" => (k_here; k_dflt (refine For_C ?_))
  k_with "call ref" => (k_here; (with_reducible show wpAny _ _ (call (Value.ref 74) _) _ _ _); k_dflt (refine' sum_use ?k1_w15 ?k2_w15 ?k3_w15 ?k4_w15 ?k5_w15 ?kK_w15 ?kd_w15 ?ku_w15 ?g_w15 ?hx_w15 ?hy_w15 ?i1_w15 ?i2_w15 ?i3_w15 ?i4_w15 ?hp_w15 ?hq_w15 ?hs_w15 ?_; (case k1_w15 => k_asm); (case k2_w15 => k_asm); (case k3_w15 => k_asm); (case k4_w15 => k_asm); (case k5_w15 => k_asm); (case kK_w15 => first | exact rfl | assumption); (case kd_w15 => ktr_room); (case ku_w15 => ktr_units); (case g_w15 => assumption); (case hx_w15 => k_mem); (case hy_w15 => k_mem); (case i1_w15 => first | exact rfl | exact num0 | exact num1); (case i2_w15 => first | exact rfl | exact den0 | exact den1); (case i3_w15 => first | exact rfl | exact num0 | exact num1); (case i4_w15 => first | exact rfl | exact den0 | exact den1); (case hp_w15 => first | (with_reducible assumption) | exact Sz.zero | exact Sz.one); (case hq_w15 => first | (with_reducible assumption) | exact Sz.zero | exact Sz.one); (case hs_w15 => omega); k_whole); intro D'_w15 u1'_w15 u2'_w15 c'_w15 h'_w15 tk'_w15 F'_w15 N'_w15 l1'_w15 sz'_w15; (try dsimp only); (try k_fold))
  k_with "call ref" => (k_here; (with_reducible show wpAny _ _ (call (Value.ref 81) _) _ _ _); k_dflt (refine' diff_use ?k1_w16 ?k2_w16 ?k3_w16 ?k4_w16 ?k5_w16 ?kK_w16 ?kd_w16 ?ku_w16 ?g_w16 ?hx_w16 ?hy_w16 ?i1_w16 ?i2_w16 ?i3_w16 ?i4_w16 ?hp_w16 ?hq_w16 ?hs_w16 ?_; (case k1_w16 => k_asm); (case k2_w16 => k_asm); (case k3_w16 => k_asm); (case k4_w16 => k_asm); (case k5_w16 => k_asm); (case kK_w16 => first | exact rfl | assumption); (case kd_w16 => ktr_room); (case ku_w16 => ktr_units); (case g_w16 => assumption); (case hx_w16 => k_mem); (case hy_w16 => k_mem); (case i1_w16 => first | exact rfl | exact num0 | exact num1); (case i2_w16 => first | exact rfl | exact den0 | exact den1); (case i3_w16 => first | exact rfl | exact num0 | exact num1); (case i4_w16 => first | exact rfl | exact den0 | exact den1); (case hp_w16 => first | (with_reducible assumption) | exact Sz.zero | exact Sz.one); (case hq_w16 => first | (with_reducible assumption) | exact Sz.zero | exact Sz.one); (case hs_w16 => omega); k_whole); intro D'_w16 u1'_w16 u2'_w16 c'_w16 h'_w16 tk'_w16 F'_w16 N'_w16 l1'_w16 sz'_w16; (try dsimp only); (try k_fold))
  k_with "call ref" => (k_here; (with_reducible show wpAny _ _ (call (Value.ref 88) _) _ _ _); k_dflt (refine' prod_use ?k1_w17 ?k2_w17 ?k3_w17 ?k4_w17 ?k5_w17 ?kK_w17 ?kd_w17 ?ku_w17 ?g_w17 ?hx_w17 ?hy_w17 ?i1_w17 ?i2_w17 ?i3_w17 ?i4_w17 ?hp_w17 ?hq_w17 ?hs_w17 ?_; (case k1_w17 => k_asm); (case k2_w17 => k_asm); (case k3_w17 => k_asm); (case k4_w17 => k_asm); (case k5_w17 => k_asm); (case kK_w17 => first | exact rfl | assumption); (case kd_w17 => ktr_room); (case ku_w17 => ktr_units); (case g_w17 => assumption); (case hx_w17 => k_mem); (case hy_w17 => k_mem); (case i1_w17 => first | exact rfl | exact num0 | exact num1); (case i2_w17 => first | exact rfl | exact den0 | exact den1); (case i3_w17 => first | exact rfl | exact num0 | exact num1); (case i4_w17 => first | exact rfl | exact den0 | exact den1); (case hp_w17 => first | (with_reducible assumption) | exact Sz.zero | exact Sz.one); (case hq_w17 => first | (with_reducible assumption) | exact Sz.zero | exact Sz.one); (case hs_w17 => omega); k_whole); intro D'_w17 u1'_w17 u2'_w17 c'_w17 h'_w17 tk'_w17 F'_w17 N'_w17 l1'_w17 sz'_w17; (try dsimp only); (try k_fold))
  k_with "call ref" => (k_here; (with_reducible show wpAny _ _ (call (Value.ref 95) _) _ _ _); k_dflt (refine' quot_use ?k1_w18 ?k2_w18 ?k3_w18 ?k4_w18 ?k5_w18 ?kK_w18 ?kd_w18 ?ku_w18 ?g_w18 ?hx_w18 ?hy_w18 ?i1_w18 ?i2_w18 ?i3_w18 ?i4_w18 ?hp_w18 ?hq_w18 ?hs_w18 ?hn_w18 ?_; (case k1_w18 => k_asm); (case k2_w18 => k_asm); (case k3_w18 => k_asm); (case k4_w18 => k_asm); (case k5_w18 => k_asm); (case kK_w18 => first | exact rfl | assumption); (case kd_w18 => ktr_room); (case ku_w18 => ktr_units); (case g_w18 => assumption); (case hx_w18 => k_mem); (case hy_w18 => k_mem); (case i1_w18 => first | exact rfl | exact num0 | exact num1); (case i2_w18 => first | exact rfl | exact den0 | exact den1); (case i3_w18 => first | exact rfl | exact num0 | exact num1); (case i4_w18 => first | exact rfl | exact den0 | exact den1); (case hp_w18 => first | (with_reducible assumption) | exact Sz.zero | exact Sz.one); (case hq_w18 => first | (with_reducible assumption) | exact Sz.zero | exact Sz.one); (case hs_w18 => omega); (case hn_w18 => assumption); k_whole); intro D'_w18 u1'_w18 u2'_w18 c'_w18 h'_w18 tk'_w18 F'_w18 N'_w18 l1'_w18 sz'_w18; (try dsimp only); (try k_fold))
  k_with "call ref" => (k_here; (with_reducible show wpAny _ _ (call (Value.ref 102) _) _ _ _); k_dflt (refine' neg_use ?k1_w19 ?k2_w19 ?k3_w19 ?k4_w19 ?k5_w19 ?kK_w19 ?kd_w19 ?ku_w19 ?hx_w19 ?i1_w19 ?i2_w19 ?hp_w19 ?_; (case k1_w19 => k_asm); (case k2_w19 => k_asm); (case k3_w19 => k_asm); (case k4_w19 => k_asm); (case k5_w19 => k_asm); (case kK_w19 => first | exact rfl | assumption); (case kd_w19 => ktr_room); (case ku_w19 => ktr_units); (case hx_w19 => k_mem); (case i1_w19 => first | exact rfl | exact num0 | exact num1); (case i2_w19 => first | exact rfl | exact den0 | exact den1); (case hp_w19 => first | (with_reducible assumption) | exact Sz.zero | exact Sz.one); k_whole); intro D'_w19 u1'_w19 u2'_w19 c'_w19 h'_w19 tk'_w19 F'_w19 N'_w19 l1'_w19 sz'_w19; (try dsimp only); (try k_fold))
  k_with "call ref" => (k_here; (with_reducible show wpAny _ _ (call (Value.ref 116) _) _ _ _); k_dflt (refine' order_use ?k1_w20 ?k2_w20 ?k3_w20 ?k4_w20 ?k5_w20 ?kK_w20 ?kd_w20 ?ku_w20 ?hx_w20 ?hy_w20 ?i1_w20 ?i2_w20 ?i3_w20 ?i4_w20 ?hp_w20 ?hq_w20 ?hs_w20 ?_; (case k1_w20 => k_asm); (case k2_w20 => k_asm); (case k3_w20 => k_asm); (case k4_w20 => k_asm); (case k5_w20 => k_asm); (case kK_w20 => first | exact rfl | assumption); (case kd_w20 => ktr_room); (case ku_w20 => ktr_units); (case hx_w20 => k_mem); (case hy_w20 => k_mem); (case i1_w20 => first | exact rfl | exact num0 | exact num1); (case i2_w20 => first | exact rfl | exact den0 | exact den1); (case i3_w20 => first | exact rfl | exact num0 | exact num1); (case i4_w20 => first | exact rfl | exact den0 | exact den1); (case hp_w20 => first | (with_reducible assumption) | exact Sz.zero | exact Sz.one); (case hq_w20 => first | (with_reducible assumption) | exact Sz.zero | exact Sz.one); (case hs_w20 => omega); k_whole); intro u'_w20 h'_w20 tk'_w20 F'_w20 N'_w20; (try dsimp only); (try k_fold))
  k_with "subscriptTail" => (k_here; (with_reducible show wpAny _ _ (subscriptTail _ _ (Value.ref _) (Value.int _ _)) _ _ _); k_dflt (refine' item_led ?N_w24 ?m_w24 ?a_w24 ?b_w24 ?x_w24 ?_; (case N_w24 => k_asm); (case m_w24 => k_mem); (case a_w24 => decide); (case b_w24 => decide); (case x_w24 => exact rfl); k_whole))
  k_with "subscriptTail Name" => (k_here; (with_reducible show wpAny _ _ (subscriptTail _ _ (Value.ref _) (Value.int _ _)) _ _ _); k_dflt (refine' item_led ?N_w25 ?m_w25 ?a_w25 ?b_w25 ?x_w25 ?_; (case N_w25 => k_asm); (case m_w25 => k_mem); (case a_w25 => decide); (case b_w25 => decide); (case x_w25 => exact rfl); k_whole))
  k_with "subscriptTail Name Constant ref int" => (k_here; (with_reducible show wpAny _ _ (subscriptTail _ _ (Value.ref _) (Value.int _ _)) _ _ _); k_dflt (refine' item_led ?N_w26 ?m_w26 ?a_w26 ?b_w26 ?x_w26 ?_; (case N_w26 => k_asm); (case m_w26 => k_mem); (case a_w26 => decide); (case b_w26 => decide); (case x_w26 => exact rfl); k_whole))
  k_with "subscriptTail Name Name ref int" => (k_here; (with_reducible show wpAny _ _ (subscriptTail _ _ (Value.ref _) (Value.int _ _)) _ _ _); k_dflt (refine' item_led ?N_w27 ?m_w27 ?a_w27 ?b_w27 ?x_w27 ?_; (case N_w27 => k_asm); (case m_w27 => k_mem); (case a_w27 => decide); (case b_w27 => decide); (case x_w27 => exact rfl); k_whole))
  k_with "subscriptTail Subscript Name Constant Name ref int" => (k_here; (with_reducible show wpAny _ _ (subscriptTail _ _ (Value.ref _) (Value.int _ _)) _ _ _); k_dflt (refine' item_led ?N_w28 ?m_w28 ?a_w28 ?b_w28 ?x_w28 ?_; (case N_w28 => k_asm); (case m_w28 => k_mem); (case a_w28 => decide); (case b_w28 => decide); (case x_w28 => exact rfl); k_whole))
  k_with "subscriptTail Subscript Name Constant Constant ref int" => (k_here; (with_reducible show wpAny _ _ (subscriptTail _ _ (Value.ref _) (Value.int _ _)) _ _ _); k_dflt (refine' item_led ?N_w29 ?m_w29 ?a_w29 ?b_w29 ?x_w29 ?_; (case N_w29 => k_asm); (case m_w29 => k_mem); (case a_w29 => decide); (case b_w29 => decide); (case x_w29 => exact rfl); k_whole))
  k_with "subscriptTail Subscript Name Name Name ref int" => (k_here; (with_reducible show wpAny _ _ (subscriptTail _ _ (Value.ref _) (Value.int _ _)) _ _ _); k_dflt (refine' item_led ?N_w30 ?m_w30 ?a_w30 ?b_w30 ?x_w30 ?_; (case N_w30 => k_asm); (case m_w30 => k_mem); (case a_w30 => decide); (case b_w30 => decide); (case x_w30 => exact rfl); k_whole))
  k_with "subscriptTail Subscript Name Name Constant ref int" => (k_here; (with_reducible show wpAny _ _ (subscriptTail _ _ (Value.ref _) (Value.int _ _)) _ _ _); k_dflt (refine' item_led ?N_w31 ?m_w31 ?a_w31 ?b_w31 ?x_w31 ?_; (case N_w31 => k_asm); (case m_w31 => k_mem); (case a_w31 => decide); (case b_w31 => decide); (case x_w31 => exact rfl); k_whole))
  k_with "getItem ref int" => (k_here; (with_reducible show wpAny _ _ (getItem (Value.ref _) (Value.int _ _)) _ _ _); k_dflt (refine' getItem_led ?N_w32 ?m_w32 ?a_w32 ?b_w32 ?x_w32 ?_; (case N_w32 => k_asm); (case m_w32 => k_mem); (case a_w32 => decide); (case b_w32 => decide); (case x_w32 => exact rfl); k_whole))
  k_with "callWith builtin:list.append cons nil" => refine callWith_method1 ?_
  k_with "callWith builtin:len nil nil" => refine callWith_builtin1 ?_
  k_with "callWith builtin:len cons nil" => refine callWith_builtin1 ?_
  k_with "exec Assign cons ListComp" => (k_here; k_dflt (refine LCg.Assign_ListComp_U (F₀ := by k_asm) (by rfl) (by with_unfolding_all rfl) (by with_unfolding_all rfl) (by decide) (by rfl) (by decide) (by rfl) (by rfl) (by rfl) ?_))
  k_with "call builtin:list.append cons nil" => (k_here; k_dflt (refine' append_K ?k1_w46 ?k2_w46 ?k3_w46 ?_ ?z_w46; (case k1_w46 => k_asm); (case k2_w46 => k_asm); (case k3_w46 => k_upd); (case z_w46 => size_fits); k_whole); intro h'_w46 F'_w46 N'_w46; (try k_sweep))
  k_with "eval Name" => (k_here; (with_reducible show wpAny _ _ (eval (PySem.Expr.Name _ _) (envOfC _ _ _ _ _)) _ _ _); k_dflt (first | (refine' nameX_L ?F_w47 ?v_w47 ?_ ?a_w47 ?b_w47; (case a_w47 => rfl); (case b_w47 => rfl); (case F_w47 => k_asm); (case v_w47 => rfl); k_whole) | (refine' nameX_C ?N_w47 ?c_w47 ?m_w47 ?d_w47 ?_ ?a_w47 ?b_w47; (case a_w47 => rfl); (case b_w47 => rfl); (case N_w47 => k_asm); (case c_w47 => rfl); (case m_w47 => k_mem); (case d_w47 => with_reducible assumption); k_whole) | (refine' nameX_K ?F_w47 ?X_w47 ?T_w47 ?e_w47 ?_ ?a_w47 ?b_w47; (case a_w47 => rfl); (case b_w47 => rfl); (case F_w47 => k_asm); (case X_w47 => k_asm); (case T_w47 => k_asm); (case e_w47 => k_is); k_whole)))
  k_with "eval ListComp" => (k_here; k_dflt (refine LCg.ListComp_U (F₀ := by k_asm) (by with_unfolding_all rfl) (by decide) (by rfl) (by decide) (by rfl) ?_))
  k_with "call ref" => (k_here; (with_reducible show wpAny _ _ (call (Value.ref 67) _) _ _ _); k_dflt (refine' make_use ?k1_w56 ?k2_w56 ?k3_w56 ?k4_w56 ?k5_w56 ?kK_w56 ?kd_w56 ?ku_w56 ?g_w56 ?h1_w56 ?h2_w56 ?h3_w56 ?h4_w56 ?_; (case k1_w56 => k_asm); (case k2_w56 => k_asm); (case k3_w56 => k_asm); (case k4_w56 => k_asm); (case k5_w56 => k_asm); (case kK_w56 => first | exact rfl | assumption); (case kd_w56 => ktr_room); (case ku_w56 => ktr_units); (case g_w56 => assumption); (case h1_w56 => omega); (case h2_w56 => omega); (case h3_w56 => omega); (case h4_w56 => omega); k_whole); intro D'_w56 u1'_w56 u2'_w56 c'_w56 h'_w56 tk'_w56 F'_w56 N'_w56 l1'_w56 en'_w56 sz'_w56; (try (replace en'_w56 := en'_w56 (by omega) (by omega) (by omega))); (try dsimp only); (try k_fold))
  k_with "call ref" => (k_here; (with_reducible show wpAny _ _ (call (Value.ref 131) _) _ _ _); k_dflt (refine' use_plate ?k1_w57 ?k2_w57 ?k3_w57 ?k4_w57 ?k5_w57 ?kK_w57 ?kd_w57 ?ku_w57 ?U_w57 ?hS_w57 ?hv_w57 ?hl_w57 ?h0_w57 ?h1_w57 ?hm_w57 ?hm2_w57 ?hne_w57 ?_; (case k1_w57 => k_asm); (case k2_w57 => k_asm); (case k3_w57 => k_asm); (case k4_w57 => k_asm); (case k5_w57 => k_asm); (case kK_w57 => first | exact rfl | assumption); (case kd_w57 => ktr_room); (case ku_w57 => ktr_units); (case U_w57 => k_upd); (case hS_w57 => k_mem); (case hv_w57 => with_reducible assumption); (case hl_w57 => assumption); (case h0_w57 => omega); (case h1_w57 => omega); (case hm_w57 => decide); (case hm2_w57 => decide); (case hne_w57 => assumption); k_whole); intro v'_w57 u'_w57 t'_w57 h'_w57 tk'_w57 hv0'_w57 hv1'_w57 F'_w57 N'_w57; (refine' upd_then N'_w57 ?U_w57 ?_; (case U_w57 => k_upd)); clear N'_w57; intro N'_w57; (try dsimp only); (try k_fold))
  k_with "CompSrc" => (refine Stop.out ?_)
  trivial
def KEnt (_ : Nat) (y : Value) (led : List (Addr × Obj)) : Prop := ∃ (q : Rat) (a : Addr) (s u : Tok) (k : Nat), y = .ref a ∧ (a, tup2 q.num s q.den u k) ∈ led ∧ Ent q
theorem KEnt.mono : MonoK KEnt := fun _ _ _ _ ⟨q, a, s, u, k, h1, h2, h3⟩ hs => ⟨q, a, s, u, k, h1, hs _ h2, h3⟩
def KEnts (n : Nat) (_ : Nat) (y : Value) (led : List (Addr × Obj)) : Prop := ∃ r as c, y = .ref r ∧ (r, listObj as c) ∈ led ∧ Items KEnt n as led
theorem KEnts.mono {n : Nat} : MonoK (KEnts n) := fun _ _ _ _ ⟨r, as, c, h1, h2, h3⟩ hs => ⟨r, as, c, h1, hs _ h2, h3.sub KEnt.mono hs⟩
theorem ents_row {n : Nat} {as : List Value} {led : List (Addr × Obj)} (h : Items KEnt n as led) : ∃ q : Nat → Rat, Items (KRat q 2) n as led ∧ ∀ j, j < n → Ent (q j) := by
  have hq : ∀ j, ∃ q : Rat, j < n → (∃ y, as[j]? = some y ∧ ∃ a s u k, y = .ref a ∧ (a, tup2 q.num s q.den u k) ∈ led ∧ Sz 2 q) ∧ Ent q := fun j => by
    by_cases hj : j < n
    · obtain ⟨y, h1, q, a, s, u, k, h2, h3, h4⟩ := h.2 j hj
      exact ⟨q, fun _ => ⟨⟨y, h1, a, s, u, k, h2, h3, h4.1⟩, h4⟩⟩
    · exact ⟨0, fun g => absurd g hj⟩
  obtain ⟨q, hq⟩ := Classical.axiomOfChoice hq
  exact ⟨q, ⟨h.1, fun j hj => (hq j hj).1⟩, fun j hj => (hq j hj).2⟩
theorem ents_mat {n m : Nat} {vs : List Value} {led : List (Addr × Obj)} (h : Items (KEnts m) n vs led) : ∃ P : Nat → Nat → Rat, Items (KRow m P 2) n vs led ∧ ∀ i j, i < n → j < m → Ent (P i j) := by
  have hq : ∀ i, ∃ q : Nat → Rat, i < n → (∃ y, vs[i]? = some y ∧ ∃ r, y = .ref r ∧ RowAt m led r q 2) ∧ ∀ j, j < m → Ent (q j) := fun i => by
    by_cases hi : i < n
    · obtain ⟨y, h1, r, as, c, h2, h3, h4⟩ := h.2 i hi
      obtain ⟨q, h5, h6⟩ := ents_row h4
      exact ⟨q, fun _ => ⟨⟨y, h1, r, h2, row_of h5 h3⟩, h6⟩⟩
    · exact ⟨fun _ => 0, fun g => absurd g hi⟩
  obtain ⟨P, hP⟩ := Classical.axiomOfChoice hq
  exact ⟨P, ⟨h.1, fun j hj => (hP j hj).1⟩, fun i j hi hj => (hP i hi).2 j hj⟩
inductive MatPost (n : Nat) (P S : Addr) (k : Int) (c0 : Nat) (news news' : List (Addr × Obj)) (r : Value) : Prop
  | mk (D : Addr) (tl : List (Addr × Obj)) (k' : Int) (t' : Tok) (vs : List Value) (c : Nat) (f0 : r = .ref D) (f1 : news' = (P, pressObj S k' t' c0) :: (tl ++ news)) (f2 : 0 ≤ k') (f3 : k' ≤ k + 20) (f4 : Away tl ((P, pressObj S k' t' c0) :: news)) (f5 : (D, listObj vs c) ∈ tl) (f6 : Items (KEnts n) n vs tl) : MatPost n P S k c0 news news' r
theorem news3 {h₀ h : Heap} {L : Addr} {x y p : Addr × Obj} {l : List (Addr × Obj)} (N : News h₀ L h (x :: y :: p :: l)) : News h₀ L h (p :: x :: y :: l) := fun q hq => by
  rcases List.mem_cons.mp hq with rfl | hq
  · exact N _ (.tail _ (.tail _ (.head _)))
  · rcases List.mem_cons.mp hq with rfl | hq
    · exact N _ (.head _)
    · rcases List.mem_cons.mp hq with rfl | hq
      · exact N _ (.tail _ (.head _))
      · exact N _ (.tail _ (.tail _ (.tail _ hq)))
theorem news4 {h₀ h : Heap} {L : Addr} {x y z p : Addr × Obj} {l : List (Addr × Obj)} (N : News h₀ L h (x :: y :: z :: p :: l)) : News h₀ L h (p :: x :: y :: z :: l) := fun q hq => by
  rcases List.mem_cons.mp hq with rfl | hq
  · exact N _ (.tail _ (.tail _ (.tail _ (.head _))))
  · rcases List.mem_cons.mp hq with rfl | hq
    · exact N _ (.head _)
    · rcases List.mem_cons.mp hq with rfl | hq
      · exact N _ (.tail _ (.head _))
      · rcases List.mem_cons.mp hq with rfl | hq
        · exact N _ (.tail _ (.tail _ (.head _)))
        · exact N _ (.tail _ (.tail _ (.tail _ (.tail _ hq))))
theorem size_to {n : Nat} : Builtin.Range.rangeSize 0 (n : Int) 1 = ((n : Nat) : Int) := by rw [size_up (by omega)]; omega
theorem small_to {n : Nat} (h : n ≤ 100) : Builtin.Range.small 0 (n : Int) 1 = true := small_range (by omega) (by omega) (by omega) (by omega)
theorem line_to {n : Nat} (h : n ≤ 100) : n ≤ sizeLine := Nat.le_trans h (by decide)
theorem mat_news {h₀ h : Heap} {L : Addr} {x p c1 c2 : Addr × Obj} {tl l : List (Addr × Obj)} (N : News h₀ L h (x :: p :: (tl ++ c1 :: c2 :: l))) : News h₀ L h (p :: ((x :: tl) ++ l)) := fun q hq => by
  rcases List.mem_cons.mp hq with rfl | hq
  · exact N _ (.tail _ (.head _))
  · rcases List.mem_cons.mp hq with rfl | hq
    · exact N _ (.head _)
    · rcases List.mem_append.mp hq with h | h
      · exact N _ (.tail _ (.tail _ (List.mem_append_left _ h)))
      · exact N _ (.tail _ (.tail _ (List.mem_append_right _ (.tail _ (.tail _ h)))))
theorem mat_post {n : Nat} {P S D : Addr} {k k' : Int} {t' : Tok} {c0 : Nat} {c1 c2 : Addr × Obj} {tl news : List (Addr × Obj)} {vs : List Value} (o1 : (@Ne Nat P D) ∧ LCg.Off1 D (tl ++ c1 :: c2 :: news)) (ap : Away tl (c1 :: c2 :: news)) (oP : ∀ p ∈ tl ++ c1 :: c2 :: news, p.1 ≠ P) (h0 : 0 ≤ k') (h1 : k' ≤ k + 20) (it : Items (KEnts n) n vs tl) :
    MatPost n P S k c0 news ((P, pressObj S k' t' c0) :: (((D, LCg.lst vs) :: tl) ++ news)) (.ref D) := by
  refine ⟨D, _, k', t', vs, _, rfl, rfl, h0, h1, fun p hp q hq => ?_, .head _, it.sub KEnts.mono fun p hp => .tail _ hp⟩
  rcases List.mem_cons.mp hp with rfl | hp
  · rcases List.mem_cons.mp hq with rfl | hq
    · exact o1.1
    · exact off1_mem o1.2 q (List.mem_append_right _ (.tail _ (.tail _ hq)))
  · rcases List.mem_cons.mp hq with rfl | hq
    · exact Ne.symm (oP p (List.mem_append_left _ hp))
    · exact ap p hp q (.tail _ (.tail _ hq))
theorem matrix_does (w : World) (mean : ExcName → Option Value) (mg mb : Str → Option Value) (G : Great mg) (n : Nat) (hn : n ≤ 3) (news : List (Addr × Obj)) (P S : Addr) (k : Int) (tk : Tok) (c0 : Nat) (vs : List Value) (ns : List Int) (c2 : Nat) (t1 : Tok)
    (hS : (S, listObj vs c2) ∈ news) (hv : IntsAre vs ns) (hl : ns.length ≤ 40) (hk0 : 0 ≤ k) (hk1 : k ≤ 100) (hd : ∀ p ∈ news, p.1 ≠ P) (hne : @Ne Nat S P) :
    Does w mean mg mb 5 136 ((P, pressObj S k tk c0) :: news) [.ref P, .int (n : Int) t1] (MatPost n P S k c0 news) := by
  intro dp un gd cn cs a ccd cl outer A₀ base h₀ L m s Q E B F X N T hk hd2 hu hret
  refine wpAny_call ?_
  k_dflt (refine' code_defC (binds := [(PySem.Str.ofString "press", .ref P), (PySem.Str.ofString "size", .int (n : Int) t1)]) ?k1 ?k2 ?k3 ?k4 ?k5 ?kA ?kF ?kK ?k6 ?k7 ?k8 ?k9 ?kB ?kD ?_ ?c2 ?c3 ?c4; (case kA => exact rfl); (case kF => exact rfl); (case kK => assumption); (case k1 => k_asm); (case k2 => k_asm); (case k3 => k_asm); (case k4 => k_asm); (case k5 => k_asm); (case k6 => k_is); (case k7 => k_is); (case k8 => ktr_room); (case k9 => exact BindsTo.of_eq rfl); (case kB => exact rfl); (case kD => decide +kernel); (case c2 => exact rfl); (case c3 => exact rfl); (case c4 => exact rfl); k_whole)
  intro g' L' h' tk' cells' FG' F' N' Y' B' X' T' l1
  have l2 := allLt_of l1
  have l3 : AllLt (L' + 1) _ := AllLt.mono l2 (Nat.le_succ _)
  have l4 : AllLt (L' + 1 + 1) _ := AllLt.mono l3 (Nat.le_succ _)
  k_cells Y'
  (try simp only [List.cons_append, List.nil_append] at N')
  (try dsimp only)
  (try k_fold)
  k_steps
  refine Stop.mk ?_
  rename IsRange _ _ _ _ _ _ _ _ => hR
  rename News _ _ _ _ => N1
  rename Fr _ _ _ _ => F1
  refine LCg.CompSrc.range (by rfl) (by k_asm) (by exact news3 N1) (by assumption) (by exact small_to (by omega)) (size_to (n := n)) (line_to (by omega)) ?_
  intro g1
  refine comp_press (KEnts n) 6 KEnts.mono (fun _ => trivial) ?off ?step ?fin
  case off => k_all
  case step =>
    intro i1 ys1 tl1 k1 t1' hi1 it1 ap1 oP1 hk1a hk1b v1 I1 oI1 C1 oC1 D1 m1 h1 tk1 E1 hv1 hC1 hx1 F2 N2 off1 ne1
    obtain ⟨tv1, rfl⟩ := hv1
    k_steps
    refine Stop.mk ?_
    rename IsRange _ _ _ _ _ _ _ _ => hR2
    rename News _ _ _ _ => N2
    rename Fr _ _ _ _ => F2
    refine LCg.CompSrc.range (by rfl) (by k_asm) (by exact news4 N2) (by assumption) (by exact small_to (by omega)) (size_to (n := n)) (line_to (by omega)) ?_
    intro g2
    refine comp_press KEnt 2 KEnt.mono (fun _ => trivial) ?off2 ?step2 ?fin2
    case off2 => k_all
    case step2 =>
      intro i2 ys2 tl2 k2 t2' hi2 it2 ap2 oP2 hk2a hk2b v2 I2 oI2 C2 oC2 D2 m2 h2 tk2 E2 hv2 hC2 hx2 F3 N3 off2 ne2
      obtain ⟨tv2, rfl⟩ := hv2
      k_steps
      (iterate 6 (try ((try show (_ : Value → Shared → Prop) _ _); k_unfold; (try dsimp only))))
      refine PressEnd.one (by k_asm) (by k_asm) (by k_asm) (by omega) (by omega) ⟨_, _, _, _, _, rfl, .head _, by assumption⟩
    case fin2 =>
      intro ys2 tl2 k2 t2' it2 ap2 oP2 hk2a hk2b
      k_steps
      refine PressEnd.list (by k_asm) (by k_asm) (by assumption) ap2 oP2 hk2a (by omega) ⟨_, _, _, rfl, .head _, it2.sub KEnt.mono fun p hp => .tail _ (List.mem_append_left _ hp)⟩
  case fin =>
    intro ys2 tl2 k2 t2' it2 ap2 oP2 hk2a hk2b
    k_steps
    rename News h₀ _ _ _ => N9
    refine hret _ _ _ _ (by assumption) (mat_news N9) (mat_post (by assumption) ap2 oP2 (by omega) (by omega) it2)
end Mine
end
section
open PySem PySem.W PyProof.Rows PySem.Calls PySem.Spec PyProof.V
set_option Elab.async false
set_option maxRecDepth 100000
set_option maxHeartbeats 8000000
namespace Mine
def elimP (P : Nat → Nat → Rat) (a k : Nat) (i j : Nat) : Rat := if i = a then P a j / P a a else if i < k then P i j - P i a * (P a j / P a a) else P i j
def elimE (e a k i : Nat) : Nat := if i = a then 2 * e else if i < k then 6 * e + 1 else e
def swapP (P : Nat → Nat → Rat) (a b : Nat) (i : Nat) : Nat → Rat := if i = a then P b else if i = b then P a else P i
def eN : Nat → Nat
  | 0 => 2
  | k + 1 => 6 * eN k + 1
theorem eN_le {k : Nat} (h : k < 3) : eN k ≤ 79 := by
  match k, h with
  | 0, _ => decide
  | 1, _ => decide
  | 2, _ => decide
theorem eN_le3 {k : Nat} (h : k ≤ 3) : eN k ≤ 475 := by
  match k, h with
  | 0, _ => decide
  | 1, _ => decide
  | 2, _ => decide
  | 3, _ => decide
theorem ordR_eq (p q : Rat) : ordR p q = if p < q then -1 else if q < p then 1 else 0 := by
  unfold ordR ordI
  simp only [← Rat.lt_iff]
theorem absR_zero_iff {p : Rat} : absR p = 0 ↔ p = 0 := by
  unfold absR; split <;> grind
theorem absR_nonneg (p : Rat) : 0 ≤ absR p := by
  unfold absR; rw [ordR_eq]
  split <;> grind
theorem lemA {a b : Rat} (h : ¬ 0 < ordR (absR b) (absR a)) : a = 0 → b = 0 := by
  intro ha
  have h1 : absR a = 0 := absR_zero_iff.mpr ha
  rw [h1, ordR_eq] at h
  have h2 := absR_nonneg b
  apply absR_zero_iff.mp
  grind
theorem lemB {a b : Rat} (h : 0 < ordR (absR b) (absR a)) : b ≠ 0 := by
  intro hb
  have h1 : absR b = 0 := absR_zero_iff.mpr hb
  rw [h1, ordR_eq] at h
  have h2 := absR_nonneg a
  grind
section
variable {prog : Program} {w : World} {A : Around} {E : Value → Shared → Prop} {s : Shared} {h₀ : Heap} {L : Addr} {m : Str → Option Value} {news : List (Addr × Obj)} {vs : List Value} {n : Nat}
theorem len_led {l : Addr} {c : Nat} {Q : Value → Shared → Prop} (N : News h₀ L s.heap news) (hm : (l, listObj vs c) ∈ news) (hi : vs.length = n) (hl : n ≤ 100000)
    (h : Q (.int n (s.toks + 1)) { s with toks := s.toks + 1 + 1 }) : wpAny (model prog w) A (call (.builtin "len") [.ref l]) Q E s := by
  have e : vs.toArray.size = n := by rw [List.size_toArray]; exact hi
  exact len_list (News.isList N hm) (by rw [e]; omega) (by rw [e]; exact h)
end
abbrev tupR (a b : Addr) (c : Nat) : Obj := { cls := .type "tuple", data := .seq #[.ref a, .ref b] c }
inductive TakenPost (Sh : Nat → (Nat → Nat → Rat) → Rat → Prop) (n m : Nat) (news news' : List (Addr × Obj)) (r : Value) : Prop
  | mk (T cT RR vs cR F q sf uf kf P tl : _) (f0 : r = .ref T) (f1 : (T, tupR RR F cT) ∈ news') (f2 : (RR, listObj vs cR) ∈ news') (f3 : (F, tup2 q.num sf q.den uf kf) ∈ news') (f4 : Sz 475 q) (f5 : RowsAt n m news' vs P (fun _ => 475)) (f6 : news' = tl ++ news) (f7 : (∀ p ∈ tl, ∀ q ∈ news, q.1 ≠ p.1)) (f8 : (Sh n P q ∨ q = 0 ∧ ∃ a P' f', a < n ∧ Sh a P' f' ∧ ∀ i, a ≤ i → i < n → P' i a = 0)) : TakenPost Sh n m news news' r
theorem taken_ret {Sh : Nat → (Nat → Nat → Rat) → Rat → Prop} {n k : Nat} {h₀ h' : Heap} {L : Addr} {m : Str → Option Value} {s : Shared} {Q : Value → Shared → Prop} {news all : List (Addr × Obj)} {tk : Nat} {T RR F : Addr} {cT cR kf : Nat} {vs : List Value} {q : Rat} {fn fd : Int} {sf uf : Tok} {P : Nat → Nat → Rat} {E : Nat → Nat} {e : Nat}
    (hret : ∀ r news' h' tk', Fr h₀ L h' m → News h₀ L h' news' → TakenPost Sh n k news news' r → Q r { s with heap := h', toks := tk' })
    (F' : Fr h₀ L h' m) (N : News h₀ L h' all) (hs : ∀ p ∈ news, p ∈ all) (hT : (T, tupR RR F cT) ∈ all) (hR : (RR, listObj vs cR) ∈ all) (hF : (F, tup2 fn sf fd uf kf) ∈ all) (i1 : fn = q.num) (i2 : fd = q.den) (hz : Sz e q) (he : e ≤ 475) (hrows : RowsAt n k all vs P E) (hE : ∀ i, i < n → E i ≤ 475)
    (hP : Sh n P q ∨ q = 0 ∧ ∃ a P' f', a < n ∧ Sh a P' f' ∧ ∀ i, a ≤ i → i < n → P' i a = 0) : Q (.ref T) { s with heap := h', toks := tk } := by
  subst i1 i2
  obtain ⟨tl, a1, a2, a3⟩ := split_ledger N hs
  exact hret _ (tl ++ news) _ _ F' (fun p hp => N p (a2 p hp)) ⟨T, cT, RR, vs, cR, F, q, sf, uf, kf, P, tl, rfl, a1 _ hT, a1 _ hR, a1 _ hF, hz.mono he, hrows.sub a1 (fun _ _ _ _ => rfl) hE, rfl, a3, hP⟩
end Mine
namespace Mine
theorem elim_start {P : Nat → Nat → Rat} {a : Nat} (i j : Nat) : (if i = a then (fun j => P a j / P a a) else P i) j = elimP P a 0 i j := by
  unfold elimP; by_cases h : i = a <;> simp [h]
theorem elimE_start {e a : Nat} (i : Nat) : (if i = a then 2 * e else e) ≤ elimE e a 0 i := by
  unfold elimE; by_cases h : i = a <;> simp [h]
theorem elim_at {P : Nat → Nat → Rat} {a : Nat} (i j : Nat) : elimP P a a i j = elimP P a (a + 1) i j := by
  unfold elimP; by_cases h : i = a
  · simp [h]
  · rw [if_neg h, if_neg h]
    by_cases g : i < a
    · rw [if_pos g, if_pos (by omega)]
    · rw [if_neg g, if_neg (by omega)]
theorem elimE_at {e a : Nat} (i : Nat) : elimE e a a i ≤ elimE e a (a + 1) i := by
  unfold elimE; by_cases h : i = a
  · simp [h]
  · rw [if_neg h, if_neg h]
    by_cases g : i < a
    · rw [if_pos g, if_pos (by omega)]; omega
    · rw [if_neg g, if_neg (by omega)]; omega
theorem elim_turn {P : Nat → Nat → Rat} {a k : Nat} (hk : k ≠ a) (i j : Nat) : (if i = k then (fun j => elimP P a k k j - elimP P a k k a * elimP P a k a j) else elimP P a k i) j = elimP P a (k + 1) i j := by
  unfold elimP
  by_cases h : i = k
  · subst h
    rw [if_pos rfl]; simp [hk]
  · rw [if_neg h]
    by_cases g : i = a
    · simp [g]
    · rw [if_neg g, if_neg g]
      by_cases g2 : i < k
      · rw [if_pos g2, if_pos (by omega)]
      · rw [if_neg g2, if_neg (by omega)]
theorem elimE_turn {e a k : Nat} (hk : k ≠ a) (i : Nat) : (if i = k then 6 * e + 1 else elimE e a k i) ≤ elimE e a (k + 1) i := by
  unfold elimE
  by_cases h : i = k
  · subst h
    simp [hk]
  · rw [if_neg h]
    by_cases g : i = a
    · simp [g]
    · rw [if_neg g, if_neg g]
      by_cases g2 : i < k
      · rw [if_pos g2, if_pos (by omega)]; omega
      · rw [if_neg g2, if_neg (by omega)]; omega
theorem elimE_le {e a k i : Nat} : elimE e a k i ≤ 6 * e + 1 := by
  unfold elimE; split
  · omega
  · split <;> omega
theorem elimE_self {e a k : Nat} : elimE e a k a = 2 * e := by unfold elimE; simp
theorem elimE_own {e a k : Nat} : elimE e a k k ≤ 2 * e := by
  unfold elimE; rw [if_neg (Nat.lt_irrefl k)]
  split <;> omega
end Mine
namespace Mine
section
variable {prog : Program} {w : World} {A : Around} {E : Value → Shared → Prop} {s : Shared} {env : Env} {h₀ : Heap} {x : Str} {body : List Stmt} {Q : Flow → Shared → Prop} {I L : Addr} {it : Obj} {J : (Str → Option Value) → List (Addr × Obj) → Prop} {h : Heap} {tk : Nat} {m : Str → Option Value} {all l0 : List (Addr × Obj)}
theorem midS_st (T : (Str → Option Value) → List (Addr × Obj) → Prop) (F : Fr h₀ L h m) (N : News h₀ L h all) (D0 : Del I it all l0) (st : ∃ small, (∀ p ∈ small, p ∈ l0) ∧ T m small) (mono : ∀ nw, LCg.Off1 I nw → T m nw → J m nw) : MidS s h₀ L I it J { s with heap := h, toks := tk } :=
  MidS.intro F N D0.facts.1 (let ⟨sm, a, b⟩ := st; ⟨sm, fun p hp => D0.facts.2.1 p (a p hp), mono sm (off1_ofD fun p hp => D0.facts.2.2 p (a p hp)) b⟩)
theorem unrEnd_st (T : (Str → Option Value) → List (Addr × Obj) → Prop) (F : Fr h₀ L h m) (N : News h₀ L h all) (D0 : Del I it all l0) (st : ∃ small, (∀ p ∈ small, p ∈ l0) ∧ T m small) (mono : ∀ nw, LCg.Off1 I nw → T m nw → J m nw) (off : ∀ m nw, J m nw → LCg.Off1 I nw) : UnrEnd h₀ L s I it J { s with heap := h, toks := tk } :=
  unrEnd_join F N D0.facts.1 (let ⟨sm, a, b⟩ := st; ⟨sm, fun p hp => D0.facts.2.1 p (a p hp), mono sm (off1_ofD fun p hp => D0.facts.2.2 p (a p hp)) b⟩) fun m nw j => off1_mem (off m nw j)
theorem iter_st {px : Pos} {r : Addr} {a b : Int} {t₀ u₀ v₀ : Tok} {m₀ : Str → Option Value} {news : List (Addr × Obj)} (J : Addr → Int → (Str → Option Value) → List (Addr × Obj) → Prop) (T : (Str → Option Value) → List (Addr × Obj) → Prop)
    (hh : A.handled = none) (hr : IsRange s.heap r a b 1 t₀ u₀ v₀) (hab : -1000 ≤ a ∧ a ≤ b ∧ b ≤ 1000) (F : Fr h₀ env.locals s.heap m₀) (N : News h₀ env.locals s.heap news) (hE : PassesOwn (model prog w) A env E)
    (st : ∃ small, (∀ p ∈ small, p ∈ news) ∧ T m₀ small) (mono : ∀ I nw, LCg.Off1 I nw → T m₀ nw → J I a m₀ nw)
    (h2 : ∀ I v m nw, a ≤ v → v < b → J I v m nw → TurnOk prog w A E h₀ env x body Q s I v m nw (J I (v + 1)))
    (h3 : ∀ I m nw, J I b m nw → TurnsC prog w A E h₀ env x body Q s I [] m nw) :
    wpAny (model prog w) A (pyIter (.ref r)) (LoopC prog w A E env x px body Q) E s :=
  iter_gen J hh hr hab F N hE (fun I hI => let ⟨sm, a, b⟩ := st; ⟨sm, a, mono I sm (off1_ofD fun p hp => ne_of_allLt hI p (a p hp)) b⟩) h2 h3
end
end Mine
namespace Mine
theorem toNat_s {v : Int} (h : 0 ≤ v) : (v + 1).toNat = v.toNat + 1 := by omega
theorem toNat_ne {a b : Int} (ha : 0 ≤ a) (hb : 0 ≤ b) (h : a ≠ b) : a.toNat ≠ b.toNat := by omega
theorem toNat_ltN {a b : Int} (ha : 0 ≤ a) (h : a ≤ b) (hn : b ≠ a) : a.toNat < b.toNat := by omega
end Mine
namespace Mine
theorem len_set {vs : List Value} {i n : Nat} {x : Value} (h : vs.length = n) : (vs.set i x).length = n := by rw [List.length_set]; exact h
end Mine
end
section
open PySem PySem.W PyProof.Rows PySem.Calls PySem.Spec PyProof.V
set_option Elab.async false
set_option maxRecDepth 100000
set_option maxHeartbeats 8000000
namespace Mine
theorem wordsg13 : True := by
  k_with_none
  k_with "execs cons" => first | (k_here; k_gentoks) | ((with_reducible refine wpAny_execs_cons ?_); k_fold)
  k_with "k_mem" => ((repeat' (first | (with_reducible exact mq0) | ktr_member | (with_reducible exact mq1) | (with_reducible exact mq2) | (with_reducible exact mq3) | (with_reducible exact mq4) | (with_reducible exact mq5) | (with_reducible exact mq6) | (with_reducible exact mq7) | (with_reducible exact mq8) | (with_reducible exact mq9) | (with_reducible refine List.mem_append_right _ ?_) | (with_reducible refine mqt ?_))); done)
  k_with "mul_fits" => exact Fit.mul (by assumption) (by assumption)
  k_with "k_ne" => first | (with_reducible refine' neN ?oa_w11; (case oa_w11 => with_reducible assumption)) | (refine' ne_symN ?oa_w11; (case oa_w11 => with_reducible assumption)) | (refine' nsl1 ?oa_w11; (case oa_w11 => repeat' (first | exact Nat.le_refl _ | refine Nat.le_succ_of_le ?_))) | (refine' nsr1 ?oa_w11; (case oa_w11 => repeat' (first | exact Nat.le_refl _ | refine Nat.le_succ_of_le ?_))) | (refine' Ne3.ci ?oa_w11; (case oa_w11 => with_reducible assumption)) | (refine' Ne3.di ?oa_w11; (case oa_w11 => with_reducible assumption)) | (refine' Ne3.dc ?oa_w11; (case oa_w11 => with_reducible assumption)) | (refine' ne_lt ?oa_w11 ?ob_w11; (case oa_w11 => with_reducible assumption); (case ob_w11 => k_mem)) | (refine' ne_lt' ?oa_w11 ?ob_w11; (case oa_w11 => with_reducible assumption); (case ob_w11 => k_mem)) | (refine' ne_off1 ?oa_w11 ?ob_w11; (case oa_w11 => with_reducible assumption); (case ob_w11 => k_mem)) | (refine' ne_off1' ?oa_w11 ?ob_w11; (case oa_w11 => with_reducible assumption); (case ob_w11 => k_mem)) | (refine' ne_off3I ?oa_w11 ?ob_w11; (case oa_w11 => with_reducible assumption); (case ob_w11 => k_mem)) | (refine' ne_off3C ?oa_w11 ?ob_w11; (case oa_w11 => with_reducible assumption); (case ob_w11 => k_mem)) | (refine' ne_off3D ?oa_w11 ?ob_w11; (case oa_w11 => with_reducible assumption); (case ob_w11 => k_mem)) | (refine' ne_off3I' ?oa_w11 ?ob_w11; (case oa_w11 => with_reducible assumption); (case ob_w11 => k_mem)) | (refine' ne_off3C' ?oa_w11 ?ob_w11; (case oa_w11 => with_reducible assumption); (case ob_w11 => k_mem)) | (refine' ne_off3D' ?oa_w11 ?ob_w11; (case oa_w11 => with_reducible assumption); (case ob_w11 => k_mem)) | ((refine neN ?_); (try dsimp only); first | (with_reducible assumption) | (refine' ne_symN ?oa_w11; (case oa_w11 => with_reducible assumption)) | (refine' nsl1 ?oa_w11; (case oa_w11 => repeat' (first | exact Nat.le_refl _ | refine Nat.le_succ_of_le ?_))) | (refine' nsr1 ?oa_w11; (case oa_w11 => repeat' (first | exact Nat.le_refl _ | refine Nat.le_succ_of_le ?_))) | (refine' Ne3.ci ?oa_w11; (case oa_w11 => with_reducible assumption)) | (refine' Ne3.di ?oa_w11; (case oa_w11 => with_reducible assumption)) | (refine' Ne3.dc ?oa_w11; (case oa_w11 => with_reducible assumption)) | (refine' ne_lt ?oa_w11 ?ob_w11; (case oa_w11 => with_reducible assumption); (case ob_w11 => k_mem)) | (refine' ne_lt' ?oa_w11 ?ob_w11; (case oa_w11 => with_reducible assumption); (case ob_w11 => k_mem)) | (refine' ne_off1 ?oa_w11 ?ob_w11; (case oa_w11 => with_reducible assumption); (case ob_w11 => k_mem)) | (refine' ne_off1' ?oa_w11 ?ob_w11; (case oa_w11 => with_reducible assumption); (case ob_w11 => k_mem)) | (refine' ne_off3I ?oa_w11 ?ob_w11; (case oa_w11 => with_reducible assumption); (case ob_w11 => k_mem)) | (refine' ne_off3C ?oa_w11 ?ob_w11; (case oa_w11 => with_reducible assumption); (case ob_w11 => k_mem)) | (refine' ne_off3D ?oa_w11 ?ob_w11; (case oa_w11 => with_reducible assumption); (case ob_w11 => k_mem)) | (refine' ne_off3I' ?oa_w11 ?ob_w11; (case oa_w11 => with_reducible assumption); (case ob_w11 => k_mem)) | (refine' ne_off3C' ?oa_w11 ?ob_w11; (case oa_w11 => with_reducible assumption); (case ob_w11 => k_mem)) | (refine' ne_off3D' ?oa_w11 ?ob_w11; (case oa_w11 => with_reducible assumption); (case ob_w11 => k_mem)) | omega)
  k_with "k_all" => ((repeat' (first | (refine' ne_id ?oa_w12; (case oa_w12 => with_reducible assumption)) | (with_reducible refine' ne_cons ?_ ?_) | (with_reducible refine' List.forall_mem_cons.mpr ⟨?_, ?_⟩) | exact List.forall_mem_nil _ | (refine' ne_id ?oa_w12; (case oa_w12 => with_reducible assumption)) | (refine' tail_lt ?oa_w12 ?ob_w12; (case oa_w12 => with_reducible assumption); (case ob_w12 => kcj_all)) | (refine' tail_off1 ?oa_w12 ?ob_w12; (case oa_w12 => with_reducible assumption); (case ob_w12 => kcj_all)) | (refine' tail_off3I ?oa_w12 ?ob_w12; (case oa_w12 => with_reducible assumption); (case ob_w12 => kcj_all)) | (refine' tail_off3C ?oa_w12 ?ob_w12; (case oa_w12 => with_reducible assumption); (case ob_w12 => kcj_all)) | (refine' tail_off3D ?oa_w12 ?ob_w12; (case oa_w12 => with_reducible assumption); (case ob_w12 => kcj_all)) | (refine' ne_of_allLt_le ?oa_w12 ?ob_w12; (case oa_w12 => with_reducible assumption); (case ob_w12 => omega)) | k_ne)); done)
  k_with "k_upd" => ((repeat' (first | (with_reducible refine' Del.head ?_) | (with_reducible refine' Del.tail ?_ ?_) | (with_reducible refine' Upd.head ?_) | (with_reducible refine' Upd.tail ?_ ?_) | (with_reducible refine' UpdF.head ?_) | (with_reducible refine' UpdF.tail ?_ ?_) | (with_reducible refine' Del.appA (by with_reducible assumption) ?_) | (with_reducible refine' Upd.app (by with_reducible assumption) ?_) | k_all | k_ne)); done)
  k_with "kcj_all" => ((repeat' (first | (with_reducible exact mem_same) | exact List.forall_mem_nil _ | (with_reducible refine' sub_cons ?_ ?_) | (with_reducible refine' List.forall_mem_cons.mpr ⟨?_, ?_⟩) | (with_reducible exact mem_appl) | (with_reducible refine' mem_step ?_) | (with_reducible refine' mem_apps ?_ ?_) | (with_reducible refine' mem_app ?_) | k_mem)); done)
  k_with "exec For Name Name cons nil" => (k_here; (rename Fr _ _ _ _ => lF'_w21); (with_unfolding_all refine' For_invVF lF'_w21 ?k1_w21 ?k2_w21 ?_; (case k1_w21 => exact rfl); (case k2_w21 => exact rfl); k_whole); l_hasStore)
  k_with "pyIter ref" => ((with_reducible show wpAny _ _ (pyIter (Value.ref _)) (fun it s₂ => LoopAtV _ _ _ _ _ _ _ _ _ it s₂) _ _); (rename Fr _ _ _ _ => lF'_w22); (rename News _ _ _ _ => lN'_w22); (with_unfolding_all refine' iter_listUnr ?hh_w22 lF'_w22 lN'_w22 ?hm_w22 ?hc_w22 ?hd_w22 ?_; (case hh_w22 => exact rfl); (case hm_w22 => k_mem); (case hc_w22 => exact rfl); (case hd_w22 => exact rfl)); clear lF'_w22 lN'_w22; intro i'_w22 l1_w22; (have l1'_w22 := allLt_of l1_w22); clear l1_w22)
  k_with "UnrEnd" => (k_here; k_dflt (refine' unr_end ?F_w23 ?N_w23 ?D_w23 ?_; (case F_w23 => k_asm); (case N_w23 => k_asm); (case D_w23 => k_upd)); (try (refine ⟨by k_mem, ?_⟩)))
  k_with "FinE" => ((unfold LCg.FinE); intro D'_w38 h'_w38 tk'_w38 F'_w38 N'_w38 o1'_w38; (try simp only [List.nil_append, List.cons_append] at N'_w38); (try dsimp only))
  k_with "FinA" => ((unfold LCg.FinA); intro D'_w39 h'_w39 tk'_w39 F'_w39 N'_w39 o1'_w39; (try simp only [List.nil_append, List.cons_append] at N'_w39); (try dsimp only))
  k_with "UnrEnd" => (k_here; k_dflt (refine' unr_keep (o := tup2 _ _ _ _ _) ?F_w40 ?N_w40 ?hs_w40 ?K_w40 ?h1_w40 ?off_w40 ?_; (case F_w40 => k_asm); (case N_w40 => k_asm); (case hs_w40 => ((repeat' (first | (with_reducible exact mem_same) | (with_reducible exact mem_appl) | (with_reducible refine' mem_step ?_) | (with_reducible refine' mem_apps ?_ ?_) | (with_reducible refine' mem_app ?_))); done)); (case K_w40 => k_mem); (case h1_w40 => k_ne); (case off_w40 => k_all)); (try (refine ⟨by k_mem, ?_⟩)))
  k_with "call ref" => (k_here; (with_reducible show wpAny _ _ (call (Value.ref 74) _) _ _ _); k_dflt (refine' sum_use ?k1_w15 ?k2_w15 ?k3_w15 ?k4_w15 ?k5_w15 ?kK_w15 ?kd_w15 ?ku_w15 ?g_w15 ?hx_w15 ?hy_w15 ?i1_w15 ?i2_w15 ?i3_w15 ?i4_w15 ?hp_w15 ?hq_w15 ?hs_w15 ?_; (case k1_w15 => k_asm); (case k2_w15 => k_asm); (case k3_w15 => k_asm); (case k4_w15 => k_asm); (case k5_w15 => k_asm); (case kK_w15 => first | exact rfl | assumption); (case kd_w15 => ktr_room); (case ku_w15 => ktr_units); (case g_w15 => assumption); (case hx_w15 => k_mem); (case hy_w15 => k_mem); (case i1_w15 => first | exact rfl | exact num0 | exact num1); (case i2_w15 => first | exact rfl | exact den0 | exact den1); (case i3_w15 => first | exact rfl | exact num0 | exact num1); (case i4_w15 => first | exact rfl | exact den0 | exact den1); (case hp_w15 => first | (with_reducible assumption) | exact Sz.zero | exact Sz.one); (case hq_w15 => first | (with_reducible assumption) | exact Sz.zero | exact Sz.one); (case hs_w15 => omega); k_whole); intro D'_w15 u1'_w15 u2'_w15 c'_w15 h'_w15 tk'_w15 F'_w15 N'_w15 l1'_w15 sz'_w15; (try dsimp only); (try k_fold))
  k_with "call ref" => (k_here; (with_reducible show wpAny _ _ (call (Value.ref 81) _) _ _ _); k_dflt (refine' diff_use ?k1_w16 ?k2_w16 ?k3_w16 ?k4_w16 ?k5_w16 ?kK_w16 ?kd_w16 ?ku_w16 ?g_w16 ?hx_w16 ?hy_w16 ?i1_w16 ?i2_w16 ?i3_w16 ?i4_w16 ?hp_w16 ?hq_w16 ?hs_w16 ?_; (case k1_w16 => k_asm); (case k2_w16 => k_asm); (case k3_w16 => k_asm); (case k4_w16 => k_asm); (case k5_w16 => k_asm); (case kK_w16 => first | exact rfl | assumption); (case kd_w16 => ktr_room); (case ku_w16 => ktr_units); (case g_w16 => assumption); (case hx_w16 => k_mem); (case hy_w16 => k_mem); (case i1_w16 => first | exact rfl | exact num0 | exact num1); (case i2_w16 => first | exact rfl | exact den0 | exact den1); (case i3_w16 => first | exact rfl | exact num0 | exact num1); (case i4_w16 => first | exact rfl | exact den0 | exact den1); (case hp_w16 => first | (with_reducible assumption) | exact Sz.zero | exact Sz.one); (case hq_w16 => first | (with_reducible assumption) | exact Sz.zero | exact Sz.one); (case hs_w16 => omega); k_whole); intro D'_w16 u1'_w16 u2'_w16 c'_w16 h'_w16 tk'_w16 F'_w16 N'_w16 l1'_w16 sz'_w16; (try dsimp only); (try k_fold))
  k_with "call ref" => (k_here; (with_reducible show wpAny _ _ (call (Value.ref 88) _) _ _ _); k_dflt (refine' prod_use ?k1_w17 ?k2_w17 ?k3_w17 ?k4_w17 ?k5_w17 ?kK_w17 ?kd_w17 ?ku_w17 ?g_w17 ?hx_w17 ?hy_w17 ?i1_w17 ?i2_w17 ?i3_w17 ?i4_w17 ?hp_w17 ?hq_w17 ?hs_w17 ?_; (case k1_w17 => k_asm); (case k2_w17 => k_asm); (case k3_w17 => k_asm); (case k4_w17 => k_asm); (case k5_w17 => k_asm); (case kK_w17 => first | exact rfl | assumption); (case kd_w17 => ktr_room); (case ku_w17 => ktr_units); (case g_w17 => assumption); (case hx_w17 => k_mem); (case hy_w17 => k_mem); (case i1_w17 => first | exact rfl | exact num0 | exact num1); (case i2_w17 => first | exact rfl | exact den0 | exact den1); (case i3_w17 => first | exact rfl | exact num0 | exact num1); (case i4_w17 => first | exact rfl | exact den0 | exact den1); (case hp_w17 => first | (with_reducible assumption) | exact Sz.zero | exact Sz.one); (case hq_w17 => first | (with_reducible assumption) | exact Sz.zero | exact Sz.one); (case hs_w17 => omega); k_whole); intro D'_w17 u1'_w17 u2'_w17 c'_w17 h'_w17 tk'_w17 F'_w17 N'_w17 l1'_w17 sz'_w17; (try dsimp only); (try k_fold))
  k_with "call ref" => (k_here; (with_reducible show wpAny _ _ (call (Value.ref 95) _) _ _ _); k_dflt (refine' quot_use ?k1_w18 ?k2_w18 ?k3_w18 ?k4_w18 ?k5_w18 ?kK_w18 ?kd_w18 ?ku_w18 ?g_w18 ?hx_w18 ?hy_w18 ?i1_w18 ?i2_w18 ?i3_w18 ?i4_w18 ?hp_w18 ?hq_w18 ?hs_w18 ?hn_w18 ?_; (case k1_w18 => k_asm); (case k2_w18 => k_asm); (case k3_w18 => k_asm); (case k4_w18 => k_asm); (case k5_w18 => k_asm); (case kK_w18 => first | exact rfl | assumption); (case kd_w18 => ktr_room); (case ku_w18 => ktr_units); (case g_w18 => assumption); (case hx_w18 => k_mem); (case hy_w18 => k_mem); (case i1_w18 => first | exact rfl | exact num0 | exact num1); (case i2_w18 => first | exact rfl | exact den0 | exact den1); (case i3_w18 => first | exact rfl | exact num0 | exact num1); (case i4_w18 => first | exact rfl | exact den0 | exact den1); (case hp_w18 => first | (with_reducible assumption) | exact Sz.zero | exact Sz.one); (case hq_w18 => first | (with_reducible assumption) | exact Sz.zero | exact Sz.one); (case hs_w18 => omega); (case hn_w18 => assumption); k_whole); intro D'_w18 u1'_w18 u2'_w18 c'_w18 h'_w18 tk'_w18 F'_w18 N'_w18 l1'_w18 sz'_w18; (try dsimp only); (try k_fold))
  k_with "call ref" => (k_here; (with_reducible show wpAny _ _ (call (Value.ref 102) _) _ _ _); k_dflt (refine' neg_use ?k1_w19 ?k2_w19 ?k3_w19 ?k4_w19 ?k5_w19 ?kK_w19 ?kd_w19 ?ku_w19 ?hx_w19 ?i1_w19 ?i2_w19 ?hp_w19 ?_; (case k1_w19 => k_asm); (case k2_w19 => k_asm); (case k3_w19 => k_asm); (case k4_w19 => k_asm); (case k5_w19 => k_asm); (case kK_w19 => first | exact rfl | assumption); (case kd_w19 => ktr_room); (case ku_w19 => ktr_units); (case hx_w19 => k_mem); (case i1_w19 => first | exact rfl | exact num0 | exact num1); (case i2_w19 => first | exact rfl | exact den0 | exact den1); (case hp_w19 => first | (with_reducible assumption) | exact Sz.zero | exact Sz.one); k_whole); intro D'_w19 u1'_w19 u2'_w19 c'_w19 h'_w19 tk'_w19 F'_w19 N'_w19 l1'_w19 sz'_w19; (try dsimp only); (try k_fold))
  k_with "call ref" => (k_here; (with_reducible show wpAny _ _ (call (Value.ref 116) _) _ _ _); k_dflt (refine' order_use ?k1_w20 ?k2_w20 ?k3_w20 ?k4_w20 ?k5_w20 ?kK_w20 ?kd_w20 ?ku_w20 ?hx_w20 ?hy_w20 ?i1_w20 ?i2_w20 ?i3_w20 ?i4_w20 ?hp_w20 ?hq_w20 ?hs_w20 ?_; (case k1_w20 => k_asm); (case k2_w20 => k_asm); (case k3_w20 => k_asm); (case k4_w20 => k_asm); (case k5_w20 => k_asm); (case kK_w20 => first | exact rfl | assumption); (case kd_w20 => ktr_room); (case ku_w20 => ktr_units); (case hx_w20 => k_mem); (case hy_w20 => k_mem); (case i1_w20 => first | exact rfl | exact num0 | exact num1); (case i2_w20 => first | exact rfl | exact den0 | exact den1); (case i3_w20 => first | exact rfl | exact num0 | exact num1); (case i4_w20 => first | exact rfl | exact den0 | exact den1); (case hp_w20 => first | (with_reducible assumption) | exact Sz.zero | exact Sz.one); (case hq_w20 => first | (with_reducible assumption) | exact Sz.zero | exact Sz.one); (case hs_w20 => omega); k_whole); intro u'_w20 h'_w20 tk'_w20 F'_w20 N'_w20; (try dsimp only); (try k_fold))
  k_with "subscriptTail" => (k_here; (with_reducible show wpAny _ _ (subscriptTail _ _ (Value.ref _) (Value.int _ _)) _ _ _); k_dflt (refine' item_led ?N_w66 ?m_w66 ?a_w66 ?b_w66 ?x_w66 ?_; (case N_w66 => k_asm); (case m_w66 => k_mem); (case a_w66 => first | (with_reducible assumption) | decide); (case b_w66 => first | (with_reducible assumption) | decide); (case x_w66 => first | (with_reducible assumption) | exact rfl); k_whole))
  k_with "subscriptTail Name" => (k_here; (with_reducible show wpAny _ _ (subscriptTail _ _ (Value.ref _) (Value.int _ _)) _ _ _); k_dflt (refine' item_led ?N_w67 ?m_w67 ?a_w67 ?b_w67 ?x_w67 ?_; (case N_w67 => k_asm); (case m_w67 => k_mem); (case a_w67 => first | (with_reducible assumption) | decide); (case b_w67 => first | (with_reducible assumption) | decide); (case x_w67 => first | (with_reducible assumption) | exact rfl); k_whole))
  k_with "subscriptTail Name Constant ref int" => (k_here; (with_reducible show wpAny _ _ (subscriptTail _ _ (Value.ref _) (Value.int _ _)) _ _ _); k_dflt (refine' item_led ?N_w68 ?m_w68 ?a_w68 ?b_w68 ?x_w68 ?_; (case N_w68 => k_asm); (case m_w68 => k_mem); (case a_w68 => first | (with_reducible assumption) | decide); (case b_w68 => first | (with_reducible assumption) | decide); (case x_w68 => first | (with_reducible assumption) | exact rfl); k_whole))
  k_with "subscriptTail Name Name ref int" => (k_here; (with_reducible show wpAny _ _ (subscriptTail _ _ (Value.ref _) (Value.int _ _)) _ _ _); k_dflt (refine' item_led ?N_w69 ?m_w69 ?a_w69 ?b_w69 ?x_w69 ?_; (case N_w69 => k_asm); (case m_w69 => k_mem); (case a_w69 => first | (with_reducible assumption) | decide); (case b_w69 => first | (with_reducible assumption) | decide); (case x_w69 => first | (with_reducible assumption) | exact rfl); k_whole))
  k_with "subscriptTail Subscript Name Constant Name ref int" => (k_here; (with_reducible show wpAny _ _ (subscriptTail _ _ (Value.ref _) (Value.int _ _)) _ _ _); k_dflt (refine' item_led ?N_w70 ?m_w70 ?a_w70 ?b_w70 ?x_w70 ?_; (case N_w70 => k_asm); (case m_w70 => k_mem); (case a_w70 => first | (with_reducible assumption) | decide); (case b_w70 => first | (with_reducible assumption) | decide); (case x_w70 => first | (with_reducible assumption) | exact rfl); k_whole))
  k_with "subscriptTail Subscript Name Constant Constant ref int" => (k_here; (with_reducible show wpAny _ _ (subscriptTail _ _ (Value.ref _) (Value.int _ _)) _ _ _); k_dflt (refine' item_led ?N_w71 ?m_w71 ?a_w71 ?b_w71 ?x_w71 ?_; (case N_w71 => k_asm); (case m_w71 => k_mem); (case a_w71 => first | (with_reducible assumption) | decide); (case b_w71 => first | (with_reducible assumption) | decide); (case x_w71 => first | (with_reducible assumption) | exact rfl); k_whole))
  k_with "subscriptTail Subscript Name Name Name ref int" => (k_here; (with_reducible show wpAny _ _ (subscriptTail _ _ (Value.ref _) (Value.int _ _)) _ _ _); k_dflt (refine' item_led ?N_w72 ?m_w72 ?a_w72 ?b_w72 ?x_w72 ?_; (case N_w72 => k_asm); (case m_w72 => k_mem); (case a_w72 => first | (with_reducible assumption) | decide); (case b_w72 => first | (with_reducible assumption) | decide); (case x_w72 => first | (with_reducible assumption) | exact rfl); k_whole))
  k_with "subscriptTail Subscript Name Name Constant ref int" => (k_here; (with_reducible show wpAny _ _ (subscriptTail _ _ (Value.ref _) (Value.int _ _)) _ _ _); k_dflt (refine' item_led ?N_w73 ?m_w73 ?a_w73 ?b_w73 ?x_w73 ?_; (case N_w73 => k_asm); (case m_w73 => k_mem); (case a_w73 => first | (with_reducible assumption) | decide); (case b_w73 => first | (with_reducible assumption) | decide); (case x_w73 => first | (with_reducible assumption) | exact rfl); k_whole))
  k_with "getItem ref int" => (k_here; (with_reducible show wpAny _ _ (getItem (Value.ref _) (Value.int _ _)) _ _ _); k_dflt (refine' getItem_led ?N_w74 ?m_w74 ?a_w74 ?b_w74 ?x_w74 ?_; (case N_w74 => k_asm); (case m_w74 => k_mem); (case a_w74 => first | (with_reducible assumption) | decide); (case b_w74 => first | (with_reducible assumption) | decide); (case x_w74 => first | (with_reducible assumption) | exact rfl); k_whole))
  k_with "callWith builtin:list.append cons nil" => refine callWith_method1 ?_
  k_with "callWith builtin:len nil nil" => refine callWith_builtin1 ?_
  k_with "callWith builtin:len cons nil" => refine callWith_builtin1 ?_
  k_with "exec Assign cons ListComp" => (k_here; k_dflt (refine LCg.Assign_ListComp_U (F₀ := by k_asm) (by rfl) (by with_unfolding_all rfl) (by with_unfolding_all rfl) (by decide) (by rfl) (by decide) (by rfl) (by rfl) (by rfl) ?_))
  k_with "call builtin:list.append cons nil" => (k_here; k_dflt (refine' append_K ?k1_w46 ?k2_w46 ?k3_w46 ?_ ?z_w46; (case k1_w46 => k_asm); (case k2_w46 => k_asm); (case k3_w46 => k_upd); (case z_w46 => size_fits); k_whole); intro h'_w46 F'_w46 N'_w46; (try k_sweep))
  k_with "eval Name" => (k_here; (with_reducible show wpAny _ _ (eval (PySem.Expr.Name _ _) (envOfC _ _ _ _ _)) _ _ _); k_dflt (first | (refine' nameX_L ?F_w47 ?v_w47 ?_ ?a_w47 ?b_w47; (case a_w47 => rfl); (case b_w47 => rfl); (case F_w47 => k_asm); (case v_w47 => rfl); k_whole) | (refine' nameX_C ?N_w47 ?c_w47 ?m_w47 ?d_w47 ?_ ?a_w47 ?b_w47; (case a_w47 => rfl); (case b_w47 => rfl); (case N_w47 => k_asm); (case c_w47 => rfl); (case m_w47 => k_mem); (case d_w47 => with_reducible assumption); k_whole) | (refine' nameX_K ?F_w47 ?X_w47 ?T_w47 ?e_w47 ?_ ?a_w47 ?b_w47; (case a_w47 => rfl); (case b_w47 => rfl); (case F_w47 => k_asm); (case X_w47 => k_asm); (case T_w47 => k_asm); (case e_w47 => k_is); k_whole)))
  k_with "eval Name" => (k_here; (with_reducible show wpAny _ _ (eval (PySem.Expr.Name _ _) (envOfC _ _ _ _ _)) _ _ _); k_dflt (first | (refine' nameX_L ?F_w75 ?v_w75 ?_ ?a_w75 ?b_w75; (case a_w75 => rfl); (case b_w75 => rfl); (case F_w75 => k_asm); (case v_w75 => first | rfl | assumption); k_whole) | (refine' nameX_C ?N_w75 ?c_w75 ?m_w75 ?d_w75 ?_ ?a_w75 ?b_w75; (case a_w75 => rfl); (case b_w75 => rfl); (case N_w75 => k_asm); (case c_w75 => rfl); (case m_w75 => k_mem); (case d_w75 => with_reducible assumption); k_whole) | (refine' nameX_K ?F_w75 ?X_w75 ?T_w75 ?e_w75 ?_ ?a_w75 ?b_w75; (case a_w75 => rfl); (case b_w75 => rfl); (case F_w75 => k_asm); (case X_w75 => k_asm); (case T_w75 => k_asm); (case e_w75 => k_is); k_whole)))
  k_with "call builtin:len" => (k_here; (with_reducible show wpAny _ _ (call (Value.builtin "len") [Value.ref _]) _ _ _); k_dflt (refine' len_led ?k1_w76 ?k2_w76 ?k3_w76 ?k4_w76 ?_; (case k1_w76 => k_asm); (case k2_w76 => k_mem); (case k3_w76 => first | (with_reducible assumption) | (refine' len_set ?z_w76; (case z_w76 => with_reducible assumption))); (case k4_w76 => omega); k_whole); (try dsimp only))
  k_with "compareOp Eq ref ref" => (k_here; (with_reducible show wpAny _ _ (compareOp CmpOp.Eq (Value.ref _) (Value.ref _)) _ _ _); k_dflt (refine' eq_rats ?N_w77 ?ha_w77 ?hb_w77 ?i1_w77 ?i2_w77 ?i3_w77 ?i4_w77 ?hu_w77 ?_; (case N_w77 => k_asm); (case ha_w77 => k_mem); (case hb_w77 => k_mem); (case i1_w77 => first | exact rfl | exact num0 | exact num1); (case i2_w77 => first | exact rfl | exact den0 | exact den1); (case i3_w77 => first | exact rfl | exact num0 | exact num1); (case i4_w77 => first | exact rfl | exact den0 | exact den1); (case hu_w77 => first | ktr_units | units_room | omega); k_whole))
  k_with "compareOp NotEq ref ref" => (k_here; (with_reducible show wpAny _ _ (compareOp CmpOp.NotEq (Value.ref _) (Value.ref _)) _ _ _); k_dflt (refine' ne_rats ?N_w78 ?ha_w78 ?hb_w78 ?i1_w78 ?i2_w78 ?i3_w78 ?i4_w78 ?hu_w78 ?_; (case N_w78 => k_asm); (case ha_w78 => k_mem); (case hb_w78 => k_mem); (case i1_w78 => first | exact rfl | exact num0 | exact num1); (case i2_w78 => first | exact rfl | exact den0 | exact den1); (case i3_w78 => first | exact rfl | exact num0 | exact num1); (case i4_w78 => first | exact rfl | exact den0 | exact den1); (case hu_w78 => first | ktr_units | units_room | omega); k_whole))
  k_with "setItem ref int ref" => (k_here; k_dflt (refine' set_any ?k1_w79 ?k2_w79 ?k3_w79 ?k4_w79 ?k5_w79 ?k6_w79 ?_; (case k1_w79 => k_asm); (case k2_w79 => k_asm); (case k6_w79 => k_upd); (case k3_w79 => with_reducible assumption); (case k4_w79 => with_reducible assumption); (case k5_w79 => (try simp only [List.length_set]); omega); k_whole); intro h'_w79 F'_w79 N'_w79; (try k_sweep))
  k_with "exec Assign cons ListComp" => (k_here; k_dflt (first | (refine LCg.Assign_ListComp_U (F₀ := by k_asm) (by rfl) (by with_unfolding_all rfl) (by with_unfolding_all rfl) (by decide) (by rfl) (by decide) (by rfl) (by rfl) (by rfl) ?_) | ((with_reducible refine wpAny_Assign_Name ?_ ?_); rotate_left; (with_unfolding_all rfl))))
  k_with "call ref" => (k_here; (with_reducible show wpAny _ _ (call (Value.ref 155) _) _ _ _); k_dflt (refine' size_use ?k1_w80 ?k2_w80 ?k3_w80 ?k4_w80 ?k5_w80 ?kK_w80 ?kd_w80 ?ku_w80 ?hx_w80 ?hp_w80 ?hs_w80 ?_; (case k1_w80 => k_asm); (case k2_w80 => k_asm); (case k3_w80 => k_asm); (case k4_w80 => k_asm); (case k5_w80 => k_asm); (case kK_w80 => first | exact rfl | assumption); (case kd_w80 => ktr_room); (case ku_w80 => ktr_units); (case hx_w80 => k_mem); (case hp_w80 => with_reducible assumption); (case hs_w80 => omega); k_whole); intro D'_w80 u1'_w80 u2'_w80 c'_w80 h'_w80 tk'_w80 F'_w80 N'_w80 sz'_w80; (try dsimp only); (try k_fold))
  k_with "kcj_all" => ((repeat' (first | (with_reducible assumption) | (with_reducible exact mem_same) | exact List.forall_mem_nil _ | (with_reducible refine' sub_cons ?_ ?_) | (with_reducible refine' List.forall_mem_cons.mpr ⟨?_, ?_⟩) | (with_reducible exact mem_appl) | (with_reducible refine' mem_step ?_) | (with_reducible refine' mem_apps ?_ ?_) | (with_reducible refine' mem_app ?_) | k_mem)); done)
  k_with "exec Assign cons ListComp" => (with_reducible refine wpAny_Assign_Subscript ?_ ?_; rotate_left; with_unfolding_all rfl)
  k_with "exec For Name Call cons nil" => (k_here; k_dflt (refine For_C ?_))
  k_with "pyIter ref" => ((with_reducible show wpAny _ _ (pyIter (Value.ref _)) (LoopC _ _ _ _ _ _ _ _ _) _ _); (refine Stop.out ?_))
  k_with "UnrEnd" => (refine Stop.out ?_)
  k_with "call type:list" => (k_here; (with_reducible show wpAny _ _ (call (Value.type _) [Value.ref _]) _ _ _); k_dflt (refine' list_led ?F_g1 ?N_g1 ?b_g1 ?e_g1 ?z_g1 ?_; (case F_g1 => k_asm); (case N_g1 => k_asm); (case b_g1 => k_mem); (case e_g1 => with_reducible assumption); (case z_g1 => omega)); intro D_g1 c_g1 h_g1 F_g1 N_g1 l1_g1; (replace l1_g1 := allLt_of l1_g1); (try k_sweep))
  k_with "CompSrc" => (refine Stop.out ?_)
  k_with "pyIter ref" => ((with_reducible show wpAny _ _ (pyIter (Value.ref _)) (fun it s₂ => LoopAtV _ _ _ _ _ _ _ _ _ it s₂) _ _); (refine Stop.out ?_))
  k_with "eval Name" => (k_here; (with_reducible show wpAny _ _ (eval (PySem.Expr.Name _ _) (envOf _ _ _ _ _)) _ _ _); k_dflt (refine' ld ?k1_g3 ?k2_g3 ?_; (case k1_g3 => k_asm); (case k2_g3 => first | exact rfl | assumption); k_whole))
  trivial
def MatAt (n m : Nat) (led : List (Addr × Obj)) (D : Addr) (P : Nat → Nat → Rat) (e : Nat) : Prop := ∃ vs c, (D, listObj vs c) ∈ led ∧ RowsAt n m led vs P (fun _ => e)
theorem MatAt.sub {n m : Nat} {led led' : List (Addr × Obj)} {D : Addr} {P : Nat → Nat → Rat} {e : Nat} (h : MatAt n m led D P e) (hs : ∀ q ∈ led, q ∈ led') : MatAt n m led' D P e :=
  let ⟨vs, c, a, b⟩ := h
  ⟨vs, c, hs _ a, b.sub hs (fun _ _ _ _ => rfl) fun _ _ => Nat.le_refl _⟩
def KRowB (m : Nat) (P : Nat → Nat → Rat) (e : Nat) (b0 : List (Addr × Obj)) (j : Nat) (y : Value) (led : List (Addr × Obj)) : Prop := ∃ r, y = .ref r ∧ RowAt m (led ++ b0) r (P j) e
theorem KRowB.mono {m : Nat} {P : Nat → Nat → Rat} {e : Nat} {b0 : List (Addr × Obj)} : MonoK (KRowB m P e b0) := fun _ _ _ _ ⟨r, h1, h2⟩ hs => ⟨r, h1, h2.sub (fun p hp => (List.mem_append.mp hp).elim (fun h => List.mem_append_left _ (hs _ h)) (List.mem_append_right _)) (fun _ _ => rfl) (Nat.le_refl _)⟩
theorem rowsB_of {n m : Nat} {P : Nat → Nat → Rat} {e : Nat} {b0 tl led : List (Addr × Obj)} {vs : List Value} (h : Items (KRowB m P e b0) n vs tl) (h1 : ∀ p ∈ tl, p ∈ led) (h2 : ∀ p ∈ b0, p ∈ led) : RowsAt n m led vs P (fun _ => e) :=
  ⟨h.1, fun j hj => let ⟨_, g1, r, g2, g3⟩ := h.2 j hj; ⟨r, by rw [g1, g2], g3.sub (fun p hp => (List.mem_append.mp hp).elim (h1 p) (h2 p)) (fun _ _ => rfl) (Nat.le_refl _)⟩⟩
def sumTo (f : Nat → Rat) : Nat → Rat
  | 0 => 0
  | k + 1 => sumTo f k + f k
def szS (q : Nat) : Nat → Nat
  | 0 => 0
  | k + 1 => szS q k + q + 1
theorem szS_mono {q : Nat} : ∀ {n k : Nat}, k ≤ n → szS q k ≤ szS q n
  | 0, k, h => by obtain rfl : k = 0 := by omega
                  exact Nat.le_refl _
  | n + 1, k, h => by
    by_cases e : k = n + 1
    · rw [e]; exact Nat.le_refl _
    · have := szS_mono (q := q) (show k ≤ n by omega)
      show _ ≤ szS q n + q + 1
      omega
section
variable {prog : Program} {w : World} {A : Around} {E : Value → Shared → Prop} {s : Shared} {env : Env} {h₀ : Heap} {x : Str} {body : List Stmt} {Q : Flow → Shared → Prop} {I : Addr} {lp : Addr × Obj}
abbrev TurnL (prog : Program) (w : World) (A : Around) (E : Value → Shared → Prop) (h₀ : Heap) (env : Env) (x : Str) (body : List Stmt) (Q : Flow → Shared → Prop) (s : Shared) (I : Addr) (v : Value) (m : Str → Option Value) (news : List (Addr × Obj)) (J' : (Str → Option Value) → List (Addr × Obj) → Prop) : Prop :=
  ∀ (it : Obj) h tk, it.cls = .type "list_iterator" → Fr h₀ env.locals h (fun y => if y = x then some v else m y) → News h₀ env.locals h ((I, it) :: news) →
      wpAny (model prog w) A (execs body env) (UnrPost h₀ env.locals { s with heap := h, toks := tk } I it J' Q) E { s with heap := h, toks := tk }
theorem ListRest.gen {J : Nat → (Str → Option Value) → List (Addr × Obj) → Prop} {vs : List Value} (hlp : ∀ i m nw, J i m nw → lp ∈ nw)
    (ht : ∀ i v m nw, vs[i]? = some v → J i m nw → TurnL prog w A E h₀ env x body Q s I v m nw (J (i + 1)))
    (hz : ∀ m nw, J vs.length m nw → ∀ h tk, Fr h₀ env.locals h m → News h₀ env.locals h nw → Q .next { s with heap := h, toks := tk }) :
    ∀ (k i : Nat) (m : Str → Option Value) (nw : List (Addr × Obj)), i + k = vs.length → J i m nw → ListRest prog w A E h₀ env x body Q s I lp (vs.drop i) m nw
  | 0, i, m, nw, e, j => by
    rw [List.drop_of_length_le (by omega)]
    exact ListRest.zero (hz m nw (by rw [← e]; exact j))
  | k + 1, i, m, nw, e, j => by
    have hi : i < vs.length := by omega
    rw [List.drop_eq_getElem_cons hi]
    exact ListRest.succ fun it h tk hc F N => wpAny_mono (ht i _ m nw (List.getElem?_eq_getElem hi) j it h tk hc F N) (fun f s'' h3 => unrPost_mono (fun m' nw' j' => ⟨hlp _ _ _ j', ListRest.gen hlp ht hz k (i + 1) m' nw' (by omega) j'⟩) f s'' h3) fun _ _ e => e
theorem iter_listG {ax : Addr} {lo : Obj} {vs : List Value} {n : Nat} {m₀ : Str → Option Value} {news : List (Addr × Obj)} (J : Addr → Nat → (Str → Option Value) → List (Addr × Obj) → Prop)
    (hh : A.handled = none) (F : Fr h₀ env.locals s.heap m₀) (N : News h₀ env.locals s.heap news) (hm : (ax, lo) ∈ news) (hc : lo.cls = .type "list") (hd : lo.data = .seq vs.toArray n)
    (h1 : ∀ I, AllLt I news → J I 0 m₀ news) (hlp : ∀ I i m nw, J I i m nw → (ax, lo) ∈ nw)
    (h2 : ∀ I i v m nw, vs[i]? = some v → J I i m nw → TurnL prog w A E h₀ env x body Q s I v m nw (J I (i + 1)))
    (h3 : ∀ I m nw, J I vs.length m nw → ∀ h tk, Fr h₀ env.locals h m → News h₀ env.locals h nw → Q .next { s with heap := h, toks := tk }) :
    wpAny (model prog w) A (pyIter (.ref ax)) (fun it s₂ => LoopAtV prog w A h₀ env x body Q E it s₂) E s :=
  iter_listUnr hh F N hm hc hd fun I hI => ListRest.gen (J := J I) (hlp I) (h2 I) (h3 I) vs.length 0 m₀ news (Nat.zero_add _) (h1 I (allLt_of hI))
end
inductive JT (l : Addr) (lo : Obj) (news : List (Addr × Obj)) (f : Nat → Rat) (e : Nat) (I : Addr) (i : Nat) (mm : Str → Option Value) (nw : List (Addr × Obj)) : Prop
  | mk (D : Addr) (s u : Tok) (c : Nat) (f0 : mm (PySem.Str.ofString "found") = some (.ref D)) (f1 : nw = (D, tup2 (sumTo f i).num s (sumTo f i).den u c) :: news) (f2 : AllLt D news) (f3 : Sz (szS e i) (sumTo f i)) (f4 : ∀ p ∈ news, p.1 ≠ I) : JT l lo news f e I i mm nw
theorem jt_end {L : Addr} {h₀ h' : Heap} {m' : Str → Option Value} {l : Addr} {lo it : Obj} {news l0 : List (Addr × Obj)} {f : Nat → Rat} {e i : Nat} {I D : Addr} {s u : Tok} {c tk : Nat} {s₁ : Shared} (F : Fr h₀ L h' m') (N : News h₀ L h' ((D, tup2 (sumTo f i + f i).num s (sumTo f i + f i).den u c) :: (I, it) :: l0)) (l1 : AllLt D ((I, it) :: l0))
    (hs : ∀ p ∈ news, p ∈ l0) (hf : m' (PySem.Str.ofString "found") = some (.ref D)) (hz : Sz (szS e (i + 1)) (sumTo f i + f i)) (f4 : ∀ p ∈ news, p.1 ≠ I) :
    UnrEnd h₀ L s₁ I it (JT l lo news f e I (i + 1)) { s₁ with heap := h', toks := tk } :=
  UnrEnd.intro F N ((D, tup2 (sumTo f i + f i).num s (sumTo f i + f i).den u c) :: news) (fun p hp => by
    rcases List.mem_cons.mp hp with rfl | hp
    · exact .tail _ (.head _)
    · rcases List.mem_cons.mp hp with rfl | hp
      · exact .head _
      · exact .tail _ (.tail _ (hs p hp))) (fun p hp => by
    rcases List.mem_cons.mp hp with rfl | hp
    · exact ne_lt' l1 (.head _)
    · exact f4 p hp) ⟨D, s, u, c, hf, rfl, AllLt.sub l1 (fun p hp => .tail _ (hs p hp)), hz, f4⟩
theorem total_does (w : World) (mean : ExcName → Option Value) (mg mb : Str → Option Value) (G : Great mg) (news : List (Addr × Obj)) (l : Addr) (c : Nat) (vs : List Value) (f : Nat → Rat) (e n : Nat)
    (hl : (l, listObj vs c) ∈ news) (hit : Items (KRat f e) n vs news) (hn : n ≤ 100) (hs : szS e n ≤ 2300) :
    Does w mean mg mb 4 143 news [.ref l] (RatPost (sumTo f n).num (sumTo f n).den news) := by
  intro dp un gd cn cs a ccd cl outer A₀ base h₀ L m s Q E B F X N T hk hd hu hret
  refine wpAny_call ?_
  k_dflt ktr_enter
  k_steps
  refine Stop.mk ?_
  rename Fr _ _ _ _ => F1
  rename News _ _ _ _ => N1
  refine iter_listG (JT l (listObj vs c) news f e) (by rfl) F1 N1 (by k_mem) rfl rfl ?h1 ?hlp ?h2 ?h3
  case h1 => exact fun I hI => ⟨_, _, _, _, rfl, rfl, allLt_of (by assumption), Sz.zero, fun p hp => ne_of_allLt hI p (.tail _ hp)⟩
  case hlp => exact fun I i m nw ⟨D, s, u, c, f0, f1, f2, f3, f4⟩ => f1 ▸ .tail _ hl
  case h2 =>
    intro I i v m nw hv hJ it h1 tk1 hc F2 N2
    (try k_fold)
    obtain ⟨D, s, u, c, f0, rfl, f2, f3, f4⟩ := hJ
    have hi : i < n := by rw [← hit.1]; exact (List.getElem?_eq_some_iff.mp hv).1
    obtain ⟨y, hy, ya, ys, yu, yk, rfl, hm, hz⟩ := hit.2 i hi
    obtain rfl : Value.ref ya = v := Option.some.inj (hy.symm.trans hv)
    have hb : szS e i + e + 1 ≤ 2300 := Nat.le_trans (szS_mono (q := e) (show i + 1 ≤ n from hi)) hs
    k_steps
    refine Stop.mk ?_
    exact jt_end (by k_asm) (by k_asm) (by assumption) (fun p hp => .tail _ hp) (by rfl) (by assumption) f4
  case h3 =>
    intro I m nw hJ h1 tk1 F2 N2
    obtain ⟨D, s, u, c, f0, rfl, f2, f3, f4⟩ := hJ
    rw [hit.1] at N2
    k_steps
    all_goals (refine' rat_ret hret ?eF ?eN ?em ?es ?el ?_ ?_; (case eF => k_asm); (case eN => k_asm); (case em => k_mem); (case es => kcj_all); (case el => first | assumption | exact allLt_of (by assumption) | (refine' AllLt.sub ?oa ?ob; (case oa => assumption); (case ob => kcj_all))))
    all_goals rfl
end Mine
end
section
open PySem PySem.W PyProof.Rows PySem.Calls PySem.Spec PyProof.V
set_option Elab.async false
set_option maxRecDepth 100000
set_option maxHeartbeats 8000000
namespace Mine
section
variable {prog : Program} {w : World} {A : Around} {E : Value → Shared → Prop} {s : Shared} {h₀ : Heap} {L l l2 : Addr} {m : Str → Option Value} {news news' : List (Addr × Obj)} {value slice : PySem.Expr} {vs ws zs : List Value} {c c2 : Nat} {vl vu : Value} {lo hi : Option Int} {Q : Value → Shared → Prop}
theorem pick_from {x : Int} (h : 0 ≤ x) : kms_pick vs (some x) none = vs.drop x.toNat := by
  unfold kms_pick kms_lo kms_hi
  simp only [if_neg (show ¬ x < 0 by omega)]
  rcases Nat.le_total x.toNat vs.length with g | g
  · rw [Nat.min_eq_left g, List.take_of_length_le (by rw [List.length_drop]; exact Nat.le_refl _)]
  · rw [Nat.min_eq_right g, List.drop_of_length_le (Nat.le_refl _), List.drop_of_length_le g, List.take_nil]
theorem pick_from1 {x : Int} (h : 0 ≤ x) : kms_pick vs (some (x + 1)) none = vs.drop (x.toNat + 1) := by
  rw [pick_from (by omega), toNat_s h]
theorem pick_upto {x : Int} (h : 0 ≤ x) : kms_pick vs none (some x) = vs.take x.toNat := by
  unfold kms_pick kms_lo kms_hi
  simp only [if_neg (show ¬ x < 0 by omega), List.drop_zero, Nat.sub_zero]
  rcases Nat.le_total x.toNat vs.length with g | g
  · rw [Nat.min_eq_left g]
  · rw [Nat.min_eq_right g, List.take_of_length_le (Nat.le_refl _), List.take_of_length_le g]
theorem slice_led (F : Fr h₀ L s.heap m) (N : News h₀ L s.heap news) (hm : (l, listObj vs c) ∈ news) (pl : IsPart vl lo) (pu : IsPart vu hi) (e : kms_pick vs lo hi = zs) (hz : vs.length ≤ 100)
    (h : ∀ D h', Fr h₀ L h' m → News h₀ L h' ((D, listObj zs 0) :: news) → AllLt D news → Q (.ref D) { s with heap := h' })
    (hs : subscripted slice false (.ref l) (.ref s.heap.objs.size) = operate [.ref s.heap.objs.size, .ref l] (getItem (.ref l) (.ref s.heap.objs.size))) (ht : ∀ r, letTemporaryGo value (.ref l) r = pure ()) :
    wpAny (model prog w) A (subscriptTail value slice (.ref l) (.ref s.heap.objs.size)) Q E { s with heap := s.heap.push { cls := .type "slice", data := .fields #[vl, vu, .none] } } :=
  kms_slice_lit F N (News.isList N hm) pl pu e (fun D h' F' N' l => h D h' F' N' (allLt_of l)) hs ht (by rw [List.size_toArray]; exact Nat.le_trans hz (by decide))
theorem add_led (F : Fr h₀ L s.heap m) (N : News h₀ L s.heap news) (hm : (l, listObj vs c) ∈ news) (hn : (l2, listObj ws c2) ∈ news) (hz : vs.length + ws.length ≤ 300)
    (h : ∀ D h', Fr h₀ L h' m → News h₀ L h' ((D, listObj (vs ++ ws) 0) :: news) → AllLt D news → Q (.ref D) { s with heap := h' }) :
    wpAny (model prog w) A (binaryOp .Add (.ref l) (.ref l2)) Q E s :=
  kmk_add_lit F N (News.isList N hm) (News.isList N hn) rfl (fun D h' F' N' l => h D h' F' N' (allLt_of l)) (Nat.le_trans hz (by decide))
theorem append_led {D : Addr} {x : Value} (F : Fr h₀ L s.heap m) (N : News h₀ L s.heap news) (U : Upd D (listObj vs c) (listObj (vs ++ [x]) (c + 1)) news news') (hz : vs.length ≤ 100)
    (h : ∀ h', Fr h₀ L h' m → News h₀ L h' news' → Q .none { s with heap := h' }) : wpAny (model prog w) A (call (.builtin "list.append") [.ref D, x]) Q E s :=
  append_K (its := vs.toArray) (n := c) F N (by
    have e : (vs ++ [x]).toArray = vs.toArray.push x := by simp
    have U' := U
    unfold listObj at U'
    rw [e] at U'
    exact U') h (by rw [List.size_toArray]; exact Nat.le_trans hz (by decide))
end
theorem drop1_get {vs : List Value} {i : Nat} : (vs.drop (Int.toNat 1))[i]? = vs[i + 1]? := by
  rw [List.getElem?_drop, Nat.add_comm]; rfl
theorem cut_len {as : List Value} {n v : Nat} (h : as.length = n + 1) (hv : v ≤ n) : (as.take v ++ as.drop (v + 1)).length = n := by
  rw [List.length_append, List.length_take, List.length_drop]; omega
theorem cut_get {as : List Value} {n v j : Nat} (h : as.length = n + 1) (hv : v ≤ n) : (as.take v ++ as.drop (v + 1))[j]? = as[if j < v then j else j + 1]? := by
  rcases Nat.lt_or_ge j v with g | g
  · rw [if_pos g, List.getElem?_append_left (by rw [List.length_take]; omega), List.getElem?_take, if_pos g]
  · rw [if_neg (by omega), List.getElem?_append_right (by rw [List.length_take]; omega), List.length_take, List.getElem?_drop]
    congr 1
    omega
theorem cut_row {n v e : Nat} {p : Nat → Rat} {led : List (Addr × Obj)} {as : List Value} {c2 : Nat} {D : Addr} (h : as.length = n + 1) (hall : ∀ j, j < n + 1 → ∃ a s u k, as[j]? = some (.ref a) ∧ (a, tup2 (p j).num s (p j).den u k) ∈ led ∧ Sz e (p j))
    (hv : v ≤ n) (hD : (D, listObj (as.take v ++ as.drop (v + 1)) c2) ∈ led) : RowAt n led D (fun j => p (if j < v then j else j + 1)) e :=
  ⟨_, _, hD, cut_len h hv, fun j hj => by
    obtain ⟨a, s, u, k, h1, h2, h3⟩ := hall (if j < v then j else j + 1) (by split <;> omega)
    exact ⟨a, s, u, k, by rw [cut_get h hv]; exact h1, h2, h3⟩⟩
theorem Del.appN {I : Addr} {it : Obj} {tl : List (Addr × Obj)} : ∀ {l l' : List (Addr × Obj)}, (∀ p ∈ tl, p.1 ≠ I) → Del I it l l' → Del I it (tl ++ l) (tl ++ l') := by
  intro l l' h d
  induction tl with
  | nil => exact d
  | cons a t ih => exact Del.tail (h a (.head _)) (ih fun p hp => h p (.tail _ hp))
theorem Upd.appN {I : Addr} {o o' : Obj} {tl : List (Addr × Obj)} : ∀ {l l' : List (Addr × Obj)}, (∀ p ∈ tl, p.1 ≠ I) → Upd I o o' l l' → Upd I o o' (tl ++ l) (tl ++ l') := by
  intro l l' h d
  induction tl with
  | nil => exact d
  | cons a t ih => exact Upd.tail (h a (.head _)) (ih fun p hp => h p (.tail _ hp))
theorem Away.one {a : Addr} {o : Obj} {tl base : List (Addr × Obj)} (ap : Away tl base) (hm : (a, o) ∈ base) : ∀ p ∈ tl, p.1 ≠ a := fun p hp => Ne.symm (ap p hp _ hm)
theorem perm3d {α : Type} {a b c d : α} {tl l : List α} : ∀ p ∈ b :: c :: d :: (tl ++ l), p ∈ tl ++ a :: b :: c :: d :: l := fun p hp => perm4 p (.tail _ hp)
theorem Does.use {w : World} {mean : ExcName → Option Value} {mg mb : Str → Option Value} {k : Nat} {f : Addr} {news : List (Addr × Obj)} {vs : List Value} {Post : List (Addr × Obj) → Value → Prop} {dp un : Nat} {gd : Option (List Code)} {cn : Str} {cs : Scope} {a : Addr} {ccd : Value} {cl : List (Str × Addr)} {outer : List Env} {A₀ : Around} {base h₀ : Heap} {L : Addr} {m : Str → Option Value} {s : Shared} {Q E : Value → Shared → Prop}
    (D : Does w mean mg mb k f news vs Post) (B : Below A₀ base outer h₀) (F : Fr h₀ L s.heap m) (X : (Hd.hd.heap_1 w.params).In h₀) (N : News h₀ L s.heap news) (T : Top Hd.hd.view_1 LO mean mg mb h₀) (hk : cs.kind = .function) (hd : dp + k < recursionLimit) (hu : un + 8 * k < cLine)
    (ret : ∀ r news' h' tk', Fr h₀ L h' m → News h₀ L h' news' → Post news' r → Q r { s with heap := h', toks := tk' }) : wpAny (model PR w) (ktrTop dp un gd cn cs L a ccd cl outer) (call (.ref f) vs) Q E s :=
  D dp un gd cn cs a ccd cl outer A₀ base h₀ L m s Q E B F X N T hk hd hu ret
theorem krat_of {f : Nat → Rat} {e e' j : Nat} {q : Rat} {a : Addr} {s u : Tok} {k : Nat} {led : List (Addr × Obj)} (h : q = f j) (hm : (a, tup2 q.num s q.den u k) ∈ led) (hz : Sz e' q) (he : e' ≤ e) : KRat f e j (.ref a) led := by
  subst h; exact ⟨_, _, _, _, rfl, hm, hz.mono he⟩
def minorP (P : Nat → Nat → Rat) (a i j : Nat) : Rat := P (i + 1) (if j < a then j else j + 1)
def signed (a : Nat) (q : Rat) : Rat := if a % 2 = 0 then q else -q
def detN : Nat → (Nat → Nat → Rat) → Rat
  | 0, _ => 1
  | 1, P => P 0 0
  | n + 2, P => sumTo (fun a => signed a (P 0 a * detN (n + 1) (minorP P a))) (n + 2)
def partN (n : Nat) (P : Nat → Nat → Rat) (a : Nat) : Rat := signed a (P 0 a * detN n (minorP P a))
theorem detN_succ {n : Nat} {P : Nat → Nat → Rat} (h : 1 ≤ n) : detN (n + 1) P = sumTo (partN n P) (n + 1) := by
  obtain ⟨k, rfl⟩ : ∃ k, n = k + 1 := ⟨n - 1, by omega⟩
  rfl
theorem part_even {n : Nat} {P : Nat → Nat → Rat} {v : Int} (h0 : 0 ≤ v) (h : v.fmod 2 = 0) : P 0 v.toNat * detN n (minorP P v.toNat) = partN n P v.toNat := by
  unfold partN signed
  rw [Int.fmod_eq_emod_of_nonneg _ (by decide)] at h
  rw [if_pos (by omega)]
theorem part_odd {n : Nat} {P : Nat → Nat → Rat} {v : Int} (h0 : 0 ≤ v) (h : ¬ v.fmod 2 = 0) : -(P 0 v.toNat * detN n (minorP P v.toNat)) = partN n P v.toNat := by
  unfold partN signed
  rw [Int.fmod_eq_emod_of_nonneg _ (by decide)] at h
  rw [if_neg (by omega)]
inductive DetPost (q : Rat) (news news' : List (Addr × Obj)) (r : Value) : Prop
  | mk (D : Addr) (s u : Tok) (k : Nat) (tl : List (Addr × Obj)) (f0 : r = .ref D) (f1 : news' = tl ++ news) (f2 : (D, tup2 q.num s q.den u k) ∈ news') (f3 : Away tl news) : DetPost q news news' r
inductive SB (L D : Addr) (base : List (Addr × Obj)) (CA : Option Value → Prop) (f : Nat → Rat) (e v : Nat) (mm : Str → Option Value) (nw : List (Addr × Obj)) : Prop
  | mk (Dp : Addr) (ps : List Value) (cp : Nat) (oA : Obj) (vA : Option Value) (rest : List (Addr × Obj)) (f0 : mm (PySem.Str.ofString "rows") = some (.ref D)) (f1 : mm (PySem.Str.ofString "parts") = some (.ref Dp)) (f2 : oA.data = .cell vA) (f3 : CA vA) (f4 : nw = (L + 1, oA) :: (Dp, listObj ps cp) :: rest)
      (f5 : @Ne Nat Dp (L + 1)) (f6 : ∀ p ∈ rest, p.1 ≠ L + 1) (f7 : ∀ p ∈ rest, p.1 ≠ Dp) (f8 : ∀ p ∈ base, p ∈ rest) (f9 : Items (KRat f e) v ps rest) : SB L D base CA f e v mm nw
theorem SB.intro {L D Dp : Addr} {base all l1 rest : List (Addr × Obj)} {CA : Option Value → Prop} {f : Nat → Rat} {e v cp : Nat} {mm : Str → Option Value} {oA : Obj} {vA : Option Value} {ps : List Value} (D1 : Del (L + 1) oA all l1) (D2 : Del Dp (listObj ps cp) l1 rest) (h0 : mm (PySem.Str.ofString "rows") = some (.ref D)) (h1 : mm (PySem.Str.ofString "parts") = some (.ref Dp)) (h2 : oA.data = .cell vA) (h3 : CA vA) (h8 : ∀ p ∈ base, p ∈ rest) (h9 : Items (KRat f e) v ps rest) :
    ∃ small, (∀ p ∈ small, p ∈ all) ∧ SB L D base CA f e v mm small := by
  obtain ⟨a1, b1, c1⟩ := D1.facts
  obtain ⟨a2, b2, c2⟩ := D2.facts
  exact ⟨(L + 1, oA) :: (Dp, listObj ps cp) :: rest, sub_cons a1 (sub_cons (b1 _ a2) fun p hp => b1 p (b2 p hp)), Dp, ps, cp, oA, vA, rest, h0, h1, h2, h3, rfl, c1 _ a2, fun p hp => c1 p (b2 p hp), c2, h8, h9⟩
theorem off2_of {I a b : Addr} {o o2 : Obj} {rest : List (Addr × Obj)} (h : LCg.Off1 I ((a, o) :: (b, o2) :: rest)) : @Ne Nat a I ∧ @Ne Nat b I ∧ ∀ p ∈ rest, p.1 ≠ I :=
  have h := off1_mem h
  ⟨h (a, o) (.head _), h (b, o2) (.tail _ (.head _)), fun p hp => h p (.tail _ (.tail _ hp))⟩
theorem ItemEnd.three {h₀ h' : Heap} {L : Addr} {m : Str → Option Value} {s₁ : Shared} {base4 : List (Addr × Obj)} {K : Value → List (Addr × Obj) → Prop} {tl : List (Addr × Obj)} {v : Value} {tk : Nat} {a : Addr} {o : Obj} {x y : Addr × Obj} (F : Fr h₀ L h' m) (N : News h₀ L h' ((a, o) :: x :: y :: base4)) (l : AllLt a (x :: y :: base4)) (hk : K v ((a, o) :: tl)) :
    ItemEnd h₀ L m s₁ base4 K tl v { s₁ with heap := h', toks := tk } :=
  .intro [(a, o)] F N (fun _ hp => .tail _ (.tail _ (.tail _ hp))) (fun _ hp => by obtain rfl := List.mem_singleton.mp hp; exact .head _) (away1 l fun _ hp => .tail _ (.tail _ hp)) hk
theorem ItemEnd.by {h₀ h' : Heap} {L : Addr} {m : Str → Option Value} {s₁ : Shared} {base4 : List (Addr × Obj)} {K : Value → List (Addr × Obj) → Prop} {tl l : List (Addr × Obj)} {v : Value} {tk : Nat} {a : Addr} {o : Obj} (F : Fr h₀ L h' m) (N : News h₀ L h' ((a, o) :: l)) (l1 : AllLt a l) (hs : ∀ p ∈ base4, p ∈ l) (hk : K v ((a, o) :: tl)) :
    ItemEnd h₀ L m s₁ base4 K tl v { s₁ with heap := h', toks := tk } :=
  .intro [(a, o)] F N (fun _ hp => .tail _ (hs _ hp)) (fun _ hp => by obtain rfl := List.mem_singleton.mp hp; exact .head _) (away1 l1 hs) hk
theorem wordsg14 : True := by
  k_with_none
  k_with "execs cons" => first | (k_here; k_gentoks) | ((with_reducible refine wpAny_execs_cons ?_); k_fold)
  k_with "k_mem" => ((repeat' (first | (with_reducible exact mq0) | ktr_member | (with_reducible exact mq1) | (with_reducible exact mq2) | (with_reducible exact mq3) | (with_reducible exact mq4) | (with_reducible exact mq5) | (with_reducible exact mq6) | (with_reducible exact mq7) | (with_reducible exact mq8) | (with_reducible exact mq9) | (with_reducible refine List.mem_append_right _ ?_) | (with_reducible refine mqt ?_))); done)
  k_with "mul_fits" => exact Fit.mul (by assumption) (by assumption)
  k_with "k_ne" => first | (with_reducible refine' neN ?oa_w11; (case oa_w11 => with_reducible assumption)) | (refine' ne_symN ?oa_w11; (case oa_w11 => with_reducible assumption)) | (refine' nsl1 ?oa_w11; (case oa_w11 => repeat' (first | exact Nat.le_refl _ | refine Nat.le_succ_of_le ?_))) | (refine' nsr1 ?oa_w11; (case oa_w11 => repeat' (first | exact Nat.le_refl _ | refine Nat.le_succ_of_le ?_))) | (refine' Ne3.ci ?oa_w11; (case oa_w11 => with_reducible assumption)) | (refine' Ne3.di ?oa_w11; (case oa_w11 => with_reducible assumption)) | (refine' Ne3.dc ?oa_w11; (case oa_w11 => with_reducible assumption)) | (refine' ne_lt ?oa_w11 ?ob_w11; (case oa_w11 => with_reducible assumption); (case ob_w11 => k_mem)) | (refine' ne_lt' ?oa_w11 ?ob_w11; (case oa_w11 => with_reducible assumption); (case ob_w11 => k_mem)) | (refine' ne_off1 ?oa_w11 ?ob_w11; (case oa_w11 => with_reducible assumption); (case ob_w11 => k_mem)) | (refine' ne_off1' ?oa_w11 ?ob_w11; (case oa_w11 => with_reducible assumption); (case ob_w11 => k_mem)) | (refine' ne_off3I ?oa_w11 ?ob_w11; (case oa_w11 => with_reducible assumption); (case ob_w11 => k_mem)) | (refine' ne_off3C ?oa_w11 ?ob_w11; (case oa_w11 => with_reducible assumption); (case ob_w11 => k_mem)) | (refine' ne_off3D ?oa_w11 ?ob_w11; (case oa_w11 => with_reducible assumption); (case ob_w11 => k_mem)) | (refine' ne_off3I' ?oa_w11 ?ob_w11; (case oa_w11 => with_reducible assumption); (case ob_w11 => k_mem)) | (refine' ne_off3C' ?oa_w11 ?ob_w11; (case oa_w11 => with_reducible assumption); (case ob_w11 => k_mem)) | (refine' ne_off3D' ?oa_w11 ?ob_w11; (case oa_w11 => with_reducible assumption); (case ob_w11 => k_mem)) | ((refine neN ?_); (try dsimp only); first | (with_reducible assumption) | (refine' ne_symN ?oa_w11; (case oa_w11 => with_reducible assumption)) | (refine' nsl1 ?oa_w11; (case oa_w11 => repeat' (first | exact Nat.le_refl _ | refine Nat.le_succ_of_le ?_))) | (refine' nsr1 ?oa_w11; (case oa_w11 => repeat' (first | exact Nat.le_refl _ | refine Nat.le_succ_of_le ?_))) | (refine' Ne3.ci ?oa_w11; (case oa_w11 => with_reducible assumption)) | (refine' Ne3.di ?oa_w11; (case oa_w11 => with_reducible assumption)) | (refine' Ne3.dc ?oa_w11; (case oa_w11 => with_reducible assumption)) | (refine' ne_lt ?oa_w11 ?ob_w11; (case oa_w11 => with_reducible assumption); (case ob_w11 => k_mem)) | (refine' ne_lt' ?oa_w11 ?ob_w11; (case oa_w11 => with_reducible assumption); (case ob_w11 => k_mem)) | (refine' ne_off1 ?oa_w11 ?ob_w11; (case oa_w11 => with_reducible assumption); (case ob_w11 => k_mem)) | (refine' ne_off1' ?oa_w11 ?ob_w11; (case oa_w11 => with_reducible assumption); (case ob_w11 => k_mem)) | (refine' ne_off3I ?oa_w11 ?ob_w11; (case oa_w11 => with_reducible assumption); (case ob_w11 => k_mem)) | (refine' ne_off3C ?oa_w11 ?ob_w11; (case oa_w11 => with_reducible assumption); (case ob_w11 => k_mem)) | (refine' ne_off3D ?oa_w11 ?ob_w11; (case oa_w11 => with_reducible assumption); (case ob_w11 => k_mem)) | (refine' ne_off3I' ?oa_w11 ?ob_w11; (case oa_w11 => with_reducible assumption); (case ob_w11 => k_mem)) | (refine' ne_off3C' ?oa_w11 ?ob_w11; (case oa_w11 => with_reducible assumption); (case ob_w11 => k_mem)) | (refine' ne_off3D' ?oa_w11 ?ob_w11; (case oa_w11 => with_reducible assumption); (case ob_w11 => k_mem)) | omega)
  k_with "k_all" => ((repeat' (first | (refine' ne_id ?oa_w12; (case oa_w12 => with_reducible assumption)) | (with_reducible refine' ne_cons ?_ ?_) | (with_reducible refine' List.forall_mem_cons.mpr ⟨?_, ?_⟩) | exact List.forall_mem_nil _ | (refine' ne_id ?oa_w12; (case oa_w12 => with_reducible assumption)) | (refine' tail_lt ?oa_w12 ?ob_w12; (case oa_w12 => with_reducible assumption); (case ob_w12 => kcj_all)) | (refine' tail_off1 ?oa_w12 ?ob_w12; (case oa_w12 => with_reducible assumption); (case ob_w12 => kcj_all)) | (refine' tail_off3I ?oa_w12 ?ob_w12; (case oa_w12 => with_reducible assumption); (case ob_w12 => kcj_all)) | (refine' tail_off3C ?oa_w12 ?ob_w12; (case oa_w12 => with_reducible assumption); (case ob_w12 => kcj_all)) | (refine' tail_off3D ?oa_w12 ?ob_w12; (case oa_w12 => with_reducible assumption); (case ob_w12 => kcj_all)) | (refine' ne_of_allLt_le ?oa_w12 ?ob_w12; (case oa_w12 => with_reducible assumption); (case ob_w12 => omega)) | k_ne)); done)
  k_with "k_upd" => ((repeat' (first | (with_reducible refine' Del.head ?_) | (with_reducible refine' Del.tail ?_ ?_) | (with_reducible refine' Upd.head ?_) | (with_reducible refine' Upd.tail ?_ ?_) | (with_reducible refine' UpdF.head ?_) | (with_reducible refine' UpdF.tail ?_ ?_) | (with_reducible refine' Del.appA (by with_reducible assumption) ?_) | (with_reducible refine' Upd.app (by with_reducible assumption) ?_) | k_all | k_ne)); done)
  k_with "kcj_all" => ((repeat' (first | (with_reducible exact mem_same) | exact List.forall_mem_nil _ | (with_reducible refine' sub_cons ?_ ?_) | (with_reducible refine' List.forall_mem_cons.mpr ⟨?_, ?_⟩) | (with_reducible exact mem_appl) | (with_reducible refine' mem_step ?_) | (with_reducible refine' mem_apps ?_ ?_) | (with_reducible refine' mem_app ?_) | k_mem)); done)
  k_with "exec For Name Name cons nil" => (k_here; (rename Fr _ _ _ _ => lF'_w21); (with_unfolding_all refine' For_invVF lF'_w21 ?k1_w21 ?k2_w21 ?_; (case k1_w21 => exact rfl); (case k2_w21 => exact rfl); k_whole); l_hasStore)
  k_with "pyIter ref" => ((with_reducible show wpAny _ _ (pyIter (Value.ref _)) (fun it s₂ => LoopAtV _ _ _ _ _ _ _ _ _ it s₂) _ _); (rename Fr _ _ _ _ => lF'_w22); (rename News _ _ _ _ => lN'_w22); (with_unfolding_all refine' iter_listUnr ?hh_w22 lF'_w22 lN'_w22 ?hm_w22 ?hc_w22 ?hd_w22 ?_; (case hh_w22 => exact rfl); (case hm_w22 => k_mem); (case hc_w22 => exact rfl); (case hd_w22 => exact rfl)); clear lF'_w22 lN'_w22; intro i'_w22 l1_w22; (have l1'_w22 := allLt_of l1_w22); clear l1_w22)
  k_with "UnrEnd" => (k_here; k_dflt (refine' unr_end ?F_w23 ?N_w23 ?D_w23 ?_; (case F_w23 => k_asm); (case N_w23 => k_asm); (case D_w23 => k_upd)); (try (refine ⟨by k_mem, ?_⟩)))
  k_with "FinE" => ((unfold LCg.FinE); intro D'_w38 h'_w38 tk'_w38 F'_w38 N'_w38 o1'_w38; (try simp only [List.nil_append, List.cons_append] at N'_w38); (try dsimp only))
  k_with "FinA" => ((unfold LCg.FinA); intro D'_w39 h'_w39 tk'_w39 F'_w39 N'_w39 o1'_w39; (try simp only [List.nil_append, List.cons_append] at N'_w39); (try dsimp only))
  k_with "UnrEnd" => (k_here; k_dflt (refine' unr_keep (o := tup2 _ _ _ _ _) ?F_w40 ?N_w40 ?hs_w40 ?K_w40 ?h1_w40 ?off_w40 ?_; (case F_w40 => k_asm); (case N_w40 => k_asm); (case hs_w40 => ((repeat' (first | (with_reducible exact mem_same) | (with_reducible exact mem_appl) | (with_reducible refine' mem_step ?_) | (with_reducible refine' mem_apps ?_ ?_) | (with_reducible refine' mem_app ?_))); done)); (case K_w40 => k_mem); (case h1_w40 => k_ne); (case off_w40 => k_all)); (try (refine ⟨by k_mem, ?_⟩)))
  k_with "call ref" => (k_here; (with_reducible show wpAny _ _ (call (Value.ref 74) _) _ _ _); k_dflt (refine' sum_use ?k1_w15 ?k2_w15 ?k3_w15 ?k4_w15 ?k5_w15 ?kK_w15 ?kd_w15 ?ku_w15 ?g_w15 ?hx_w15 ?hy_w15 ?i1_w15 ?i2_w15 ?i3_w15 ?i4_w15 ?hp_w15 ?hq_w15 ?hs_w15 ?_; (case k1_w15 => k_asm); (case k2_w15 => k_asm); (case k3_w15 => k_asm); (case k4_w15 => k_asm); (case k5_w15 => k_asm); (case kK_w15 => first | exact rfl | assumption); (case kd_w15 => ktr_room); (case ku_w15 => ktr_units); (case g_w15 => assumption); (case hx_w15 => k_mem); (case hy_w15 => k_mem); (case i1_w15 => first | exact rfl | exact num0 | exact num1); (case i2_w15 => first | exact rfl | exact den0 | exact den1); (case i3_w15 => first | exact rfl | exact num0 | exact num1); (case i4_w15 => first | exact rfl | exact den0 | exact den1); (case hp_w15 => first | (with_reducible assumption) | exact Sz.zero | exact Sz.one); (case hq_w15 => first | (with_reducible assumption) | exact Sz.zero | exact Sz.one); (case hs_w15 => omega); k_whole); intro D'_w15 u1'_w15 u2'_w15 c'_w15 h'_w15 tk'_w15 F'_w15 N'_w15 l1'_w15 sz'_w15; (try dsimp only); (try k_fold))
  k_with "call ref" => (k_here; (with_reducible show wpAny _ _ (call (Value.ref 81) _) _ _ _); k_dflt (refine' diff_use ?k1_w16 ?k2_w16 ?k3_w16 ?k4_w16 ?k5_w16 ?kK_w16 ?kd_w16 ?ku_w16 ?g_w16 ?hx_w16 ?hy_w16 ?i1_w16 ?i2_w16 ?i3_w16 ?i4_w16 ?hp_w16 ?hq_w16 ?hs_w16 ?_; (case k1_w16 => k_asm); (case k2_w16 => k_asm); (case k3_w16 => k_asm); (case k4_w16 => k_asm); (case k5_w16 => k_asm); (case kK_w16 => first | exact rfl | assumption); (case kd_w16 => ktr_room); (case ku_w16 => ktr_units); (case g_w16 => assumption); (case hx_w16 => k_mem); (case hy_w16 => k_mem); (case i1_w16 => first | exact rfl | exact num0 | exact num1); (case i2_w16 => first | exact rfl | exact den0 | exact den1); (case i3_w16 => first | exact rfl | exact num0 | exact num1); (case i4_w16 => first | exact rfl | exact den0 | exact den1); (case hp_w16 => first | (with_reducible assumption) | exact Sz.zero | exact Sz.one); (case hq_w16 => first | (with_reducible assumption) | exact Sz.zero | exact Sz.one); (case hs_w16 => omega); k_whole); intro D'_w16 u1'_w16 u2'_w16 c'_w16 h'_w16 tk'_w16 F'_w16 N'_w16 l1'_w16 sz'_w16; (try dsimp only); (try k_fold))
  k_with "call ref" => (k_here; (with_reducible show wpAny _ _ (call (Value.ref 88) _) _ _ _); k_dflt (refine' prod_use ?k1_w17 ?k2_w17 ?k3_w17 ?k4_w17 ?k5_w17 ?kK_w17 ?kd_w17 ?ku_w17 ?g_w17 ?hx_w17 ?hy_w17 ?i1_w17 ?i2_w17 ?i3_w17 ?i4_w17 ?hp_w17 ?hq_w17 ?hs_w17 ?_; (case k1_w17 => k_asm); (case k2_w17 => k_asm); (case k3_w17 => k_asm); (case k4_w17 => k_asm); (case k5_w17 => k_asm); (case kK_w17 => first | exact rfl | assumption); (case kd_w17 => ktr_room); (case ku_w17 => ktr_units); (case g_w17 => assumption); (case hx_w17 => k_mem); (case hy_w17 => k_mem); (case i1_w17 => first | exact rfl | exact num0 | exact num1); (case i2_w17 => first | exact rfl | exact den0 | exact den1); (case i3_w17 => first | exact rfl | exact num0 | exact num1); (case i4_w17 => first | exact rfl | exact den0 | exact den1); (case hp_w17 => first | (with_reducible assumption) | exact Sz.zero | exact Sz.one); (case hq_w17 => first | (with_reducible assumption) | exact Sz.zero | exact Sz.one); (case hs_w17 => omega); k_whole); intro D'_w17 u1'_w17 u2'_w17 c'_w17 h'_w17 tk'_w17 F'_w17 N'_w17 l1'_w17 sz'_w17; (try dsimp only); (try k_fold))
  k_with "call ref" => (k_here; (with_reducible show wpAny _ _ (call (Value.ref 95) _) _ _ _); k_dflt (refine' quot_use ?k1_w18 ?k2_w18 ?k3_w18 ?k4_w18 ?k5_w18 ?kK_w18 ?kd_w18 ?ku_w18 ?g_w18 ?hx_w18 ?hy_w18 ?i1_w18 ?i2_w18 ?i3_w18 ?i4_w18 ?hp_w18 ?hq_w18 ?hs_w18 ?hn_w18 ?_; (case k1_w18 => k_asm); (case k2_w18 => k_asm); (case k3_w18 => k_asm); (case k4_w18 => k_asm); (case k5_w18 => k_asm); (case kK_w18 => first | exact rfl | assumption); (case kd_w18 => ktr_room); (case ku_w18 => ktr_units); (case g_w18 => assumption); (case hx_w18 => k_mem); (case hy_w18 => k_mem); (case i1_w18 => first | exact rfl | exact num0 | exact num1); (case i2_w18 => first | exact rfl | exact den0 | exact den1); (case i3_w18 => first | exact rfl | exact num0 | exact num1); (case i4_w18 => first | exact rfl | exact den0 | exact den1); (case hp_w18 => first | (with_reducible assumption) | exact Sz.zero | exact Sz.one); (case hq_w18 => first | (with_reducible assumption) | exact Sz.zero | exact Sz.one); (case hs_w18 => omega); (case hn_w18 => assumption); k_whole); intro D'_w18 u1'_w18 u2'_w18 c'_w18 h'_w18 tk'_w18 F'_w18 N'_w18 l1'_w18 sz'_w18; (try dsimp only); (try k_fold))
  k_with "call ref" => (k_here; (with_reducible show wpAny _ _ (call (Value.ref 102) _) _ _ _); k_dflt (refine' neg_use ?k1_w19 ?k2_w19 ?k3_w19 ?k4_w19 ?k5_w19 ?kK_w19 ?kd_w19 ?ku_w19 ?hx_w19 ?i1_w19 ?i2_w19 ?hp_w19 ?_; (case k1_w19 => k_asm); (case k2_w19 => k_asm); (case k3_w19 => k_asm); (case k4_w19 => k_asm); (case k5_w19 => k_asm); (case kK_w19 => first | exact rfl | assumption); (case kd_w19 => ktr_room); (case ku_w19 => ktr_units); (case hx_w19 => k_mem); (case i1_w19 => first | exact rfl | exact num0 | exact num1); (case i2_w19 => first | exact rfl | exact den0 | exact den1); (case hp_w19 => first | (with_reducible assumption) | exact Sz.zero | exact Sz.one); k_whole); intro D'_w19 u1'_w19 u2'_w19 c'_w19 h'_w19 tk'_w19 F'_w19 N'_w19 l1'_w19 sz'_w19; (try dsimp only); (try k_fold))
  k_with "call ref" => (k_here; (with_reducible show wpAny _ _ (call (Value.ref 116) _) _ _ _); k_dflt (refine' order_use ?k1_w20 ?k2_w20 ?k3_w20 ?k4_w20 ?k5_w20 ?kK_w20 ?kd_w20 ?ku_w20 ?hx_w20 ?hy_w20 ?i1_w20 ?i2_w20 ?i3_w20 ?i4_w20 ?hp_w20 ?hq_w20 ?hs_w20 ?_; (case k1_w20 => k_asm); (case k2_w20 => k_asm); (case k3_w20 => k_asm); (case k4_w20 => k_asm); (case k5_w20 => k_asm); (case kK_w20 => first | exact rfl | assumption); (case kd_w20 => ktr_room); (case ku_w20 => ktr_units); (case hx_w20 => k_mem); (case hy_w20 => k_mem); (case i1_w20 => first | exact rfl | exact num0 | exact num1); (case i2_w20 => first | exact rfl | exact den0 | exact den1); (case i3_w20 => first | exact rfl | exact num0 | exact num1); (case i4_w20 => first | exact rfl | exact den0 | exact den1); (case hp_w20 => first | (with_reducible assumption) | exact Sz.zero | exact Sz.one); (case hq_w20 => first | (with_reducible assumption) | exact Sz.zero | exact Sz.one); (case hs_w20 => omega); k_whole); intro u'_w20 h'_w20 tk'_w20 F'_w20 N'_w20; (try dsimp only); (try k_fold))
  k_with "subscriptTail" => (k_here; (with_reducible show wpAny _ _ (subscriptTail _ _ (Value.ref _) (Value.int _ _)) _ _ _); k_dflt (refine' item_led ?N_w66 ?m_w66 ?a_w66 ?b_w66 ?x_w66 ?_; (case N_w66 => k_asm); (case m_w66 => k_mem); (case a_w66 => first | (with_reducible assumption) | decide); (case b_w66 => first | (with_reducible assumption) | decide); (case x_w66 => first | (with_reducible assumption) | exact rfl); k_whole))
  k_with "subscriptTail Name" => (k_here; (with_reducible show wpAny _ _ (subscriptTail _ _ (Value.ref _) (Value.int _ _)) _ _ _); k_dflt (refine' item_led ?N_w67 ?m_w67 ?a_w67 ?b_w67 ?x_w67 ?_; (case N_w67 => k_asm); (case m_w67 => k_mem); (case a_w67 => first | (with_reducible assumption) | decide); (case b_w67 => first | (with_reducible assumption) | decide); (case x_w67 => first | (with_reducible assumption) | exact rfl); k_whole))
  k_with "subscriptTail Name Constant ref int" => (k_here; (with_reducible show wpAny _ _ (subscriptTail _ _ (Value.ref _) (Value.int _ _)) _ _ _); k_dflt (refine' item_led ?N_w68 ?m_w68 ?a_w68 ?b_w68 ?x_w68 ?_; (case N_w68 => k_asm); (case m_w68 => k_mem); (case a_w68 => first | (with_reducible assumption) | decide); (case b_w68 => first | (with_reducible assumption) | decide); (case x_w68 => first | (with_reducible assumption) | exact rfl); k_whole))
  k_with "subscriptTail Name Name ref int" => (k_here; (with_reducible show wpAny _ _ (subscriptTail _ _ (Value.ref _) (Value.int _ _)) _ _ _); k_dflt (refine' item_led ?N_w69 ?m_w69 ?a_w69 ?b_w69 ?x_w69 ?_; (case N_w69 => k_asm); (case m_w69 => k_mem); (case a_w69 => first | (with_reducible assumption) | decide); (case b_w69 => first | (with_reducible assumption) | decide); (case x_w69 => first | (with_reducible assumption) | exact rfl); k_whole))
  k_with "subscriptTail Subscript Name Constant Name ref int" => (k_here; (with_reducible show wpAny _ _ (subscriptTail _ _ (Value.ref _) (Value.int _ _)) _ _ _); k_dflt (refine' item_led ?N_w70 ?m_w70 ?a_w70 ?b_w70 ?x_w70 ?_; (case N_w70 => k_asm); (case m_w70 => k_mem); (case a_w70 => first | (with_reducible assumption) | decide); (case b_w70 => first | (with_reducible assumption) | decide); (case x_w70 => first | (with_reducible assumption) | exact rfl); k_whole))
  k_with "subscriptTail Subscript Name Constant Constant ref int" => (k_here; (with_reducible show wpAny _ _ (subscriptTail _ _ (Value.ref _) (Value.int _ _)) _ _ _); k_dflt (refine' item_led ?N_w71 ?m_w71 ?a_w71 ?b_w71 ?x_w71 ?_; (case N_w71 => k_asm); (case m_w71 => k_mem); (case a_w71 => first | (with_reducible assumption) | decide); (case b_w71 => first | (with_reducible assumption) | decide); (case x_w71 => first | (with_reducible assumption) | exact rfl); k_whole))
  k_with "subscriptTail Subscript Name Name Name ref int" => (k_here; (with_reducible show wpAny _ _ (subscriptTail _ _ (Value.ref _) (Value.int _ _)) _ _ _); k_dflt (refine' item_led ?N_w72 ?m_w72 ?a_w72 ?b_w72 ?x_w72 ?_; (case N_w72 => k_asm); (case m_w72 => k_mem); (case a_w72 => first | (with_reducible assumption) | decide); (case b_w72 => first | (with_reducible assumption) | decide); (case x_w72 => first | (with_reducible assumption) | exact rfl); k_whole))
  k_with "subscriptTail Subscript Name Name Constant ref int" => (k_here; (with_reducible show wpAny _ _ (subscriptTail _ _ (Value.ref _) (Value.int _ _)) _ _ _); k_dflt (refine' item_led ?N_w73 ?m_w73 ?a_w73 ?b_w73 ?x_w73 ?_; (case N_w73 => k_asm); (case m_w73 => k_mem); (case a_w73 => first | (with_reducible assumption) | decide); (case b_w73 => first | (with_reducible assumption) | decide); (case x_w73 => first | (with_reducible assumption) | exact rfl); k_whole))
  k_with "getItem ref int" => (k_here; (with_reducible show wpAny _ _ (getItem (Value.ref _) (Value.int _ _)) _ _ _); k_dflt (refine' getItem_led ?N_w74 ?m_w74 ?a_w74 ?b_w74 ?x_w74 ?_; (case N_w74 => k_asm); (case m_w74 => k_mem); (case a_w74 => first | (with_reducible assumption) | decide); (case b_w74 => first | (with_reducible assumption) | decide); (case x_w74 => first | (with_reducible assumption) | exact rfl); k_whole))
  k_with "callWith builtin:list.append cons nil" => refine callWith_method1 ?_
  k_with "callWith builtin:len nil nil" => refine callWith_builtin1 ?_
  k_with "callWith builtin:len cons nil" => refine callWith_builtin1 ?_
  k_with "exec Assign cons ListComp" => (k_here; k_dflt (refine LCg.Assign_ListComp_U (F₀ := by k_asm) (by rfl) (by with_unfolding_all rfl) (by with_unfolding_all rfl) (by decide) (by rfl) (by decide) (by rfl) (by rfl) (by rfl) ?_))
  k_with "call builtin:list.append cons nil" => (k_here; k_dflt (refine' append_K ?k1_w46 ?k2_w46 ?k3_w46 ?_ ?z_w46; (case k1_w46 => k_asm); (case k2_w46 => k_asm); (case k3_w46 => k_upd); (case z_w46 => size_fits); k_whole); intro h'_w46 F'_w46 N'_w46; (try k_sweep))
  k_with "eval Name" => (k_here; (with_reducible show wpAny _ _ (eval (PySem.Expr.Name _ _) (envOfC _ _ _ _ _)) _ _ _); k_dflt (first | (refine' nameX_L ?F_w47 ?v_w47 ?_ ?a_w47 ?b_w47; (case a_w47 => rfl); (case b_w47 => rfl); (case F_w47 => k_asm); (case v_w47 => rfl); k_whole) | (refine' nameX_C ?N_w47 ?c_w47 ?m_w47 ?d_w47 ?_ ?a_w47 ?b_w47; (case a_w47 => rfl); (case b_w47 => rfl); (case N_w47 => k_asm); (case c_w47 => rfl); (case m_w47 => k_mem); (case d_w47 => with_reducible assumption); k_whole) | (refine' nameX_K ?F_w47 ?X_w47 ?T_w47 ?e_w47 ?_ ?a_w47 ?b_w47; (case a_w47 => rfl); (case b_w47 => rfl); (case F_w47 => k_asm); (case X_w47 => k_asm); (case T_w47 => k_asm); (case e_w47 => k_is); k_whole)))
  k_with "eval Name" => (k_here; (with_reducible show wpAny _ _ (eval (PySem.Expr.Name _ _) (envOfC _ _ _ _ _)) _ _ _); k_dflt (first | (refine' nameX_L ?F_w75 ?v_w75 ?_ ?a_w75 ?b_w75; (case a_w75 => rfl); (case b_w75 => rfl); (case F_w75 => k_asm); (case v_w75 => first | rfl | assumption); k_whole) | (refine' nameX_C ?N_w75 ?c_w75 ?m_w75 ?d_w75 ?_ ?a_w75 ?b_w75; (case a_w75 => rfl); (case b_w75 => rfl); (case N_w75 => k_asm); (case c_w75 => rfl); (case m_w75 => k_mem); (case d_w75 => with_reducible assumption); k_whole) | (refine' nameX_K ?F_w75 ?X_w75 ?T_w75 ?e_w75 ?_ ?a_w75 ?b_w75; (case a_w75 => rfl); (case b_w75 => rfl); (case F_w75 => k_asm); (case X_w75 => k_asm); (case T_w75 => k_asm); (case e_w75 => k_is); k_whole)))
  k_with "call builtin:len" => (k_here; (with_reducible show wpAny _ _ (call (Value.builtin "len") [Value.ref _]) _ _ _); k_dflt (refine' len_led ?k1_w76 ?k2_w76 ?k3_w76 ?k4_w76 ?_; (case k1_w76 => k_asm); (case k2_w76 => k_mem); (case k3_w76 => first | (with_reducible assumption) | (refine' len_set ?z_w76; (case z_w76 => with_reducible assumption))); (case k4_w76 => omega); k_whole); (try dsimp only))
  k_with "compareOp Eq ref ref" => (k_here; (with_reducible show wpAny _ _ (compareOp CmpOp.Eq (Value.ref _) (Value.ref _)) _ _ _); k_dflt (refine' eq_rats ?N_w77 ?ha_w77 ?hb_w77 ?i1_w77 ?i2_w77 ?i3_w77 ?i4_w77 ?hu_w77 ?_; (case N_w77 => k_asm); (case ha_w77 => k_mem); (case hb_w77 => k_mem); (case i1_w77 => first | exact rfl | exact num0 | exact num1); (case i2_w77 => first | exact rfl | exact den0 | exact den1); (case i3_w77 => first | exact rfl | exact num0 | exact num1); (case i4_w77 => first | exact rfl | exact den0 | exact den1); (case hu_w77 => first | ktr_units | units_room | omega); k_whole))
  k_with "compareOp NotEq ref ref" => (k_here; (with_reducible show wpAny _ _ (compareOp CmpOp.NotEq (Value.ref _) (Value.ref _)) _ _ _); k_dflt (refine' ne_rats ?N_w78 ?ha_w78 ?hb_w78 ?i1_w78 ?i2_w78 ?i3_w78 ?i4_w78 ?hu_w78 ?_; (case N_w78 => k_asm); (case ha_w78 => k_mem); (case hb_w78 => k_mem); (case i1_w78 => first | exact rfl | exact num0 | exact num1); (case i2_w78 => first | exact rfl | exact den0 | exact den1); (case i3_w78 => first | exact rfl | exact num0 | exact num1); (case i4_w78 => first | exact rfl | exact den0 | exact den1); (case hu_w78 => first | ktr_units | units_room | omega); k_whole))
  k_with "setItem ref int ref" => (k_here; k_dflt (refine' set_any ?k1_w79 ?k2_w79 ?k3_w79 ?k4_w79 ?k5_w79 ?k6_w79 ?_; (case k1_w79 => k_asm); (case k2_w79 => k_asm); (case k6_w79 => k_upd); (case k3_w79 => with_reducible assumption); (case k4_w79 => with_reducible assumption); (case k5_w79 => (try simp only [List.length_set]); omega); k_whole); intro h'_w79 F'_w79 N'_w79; (try k_sweep))
  k_with "exec Assign cons ListComp" => (k_here; k_dflt (first | (refine LCg.Assign_ListComp_U (F₀ := by k_asm) (by rfl) (by with_unfolding_all rfl) (by with_unfolding_all rfl) (by decide) (by rfl) (by decide) (by rfl) (by rfl) (by rfl) ?_) | ((with_reducible refine wpAny_Assign_Name ?_ ?_); rotate_left; (with_unfolding_all rfl))))
  k_with "call ref" => (k_here; (with_reducible show wpAny _ _ (call (Value.ref 155) _) _ _ _); k_dflt (refine' size_use ?k1_w80 ?k2_w80 ?k3_w80 ?k4_w80 ?k5_w80 ?kK_w80 ?kd_w80 ?ku_w80 ?hx_w80 ?hp_w80 ?hs_w80 ?_; (case k1_w80 => k_asm); (case k2_w80 => k_asm); (case k3_w80 => k_asm); (case k4_w80 => k_asm); (case k5_w80 => k_asm); (case kK_w80 => first | exact rfl | assumption); (case kd_w80 => ktr_room); (case ku_w80 => ktr_units); (case hx_w80 => k_mem); (case hp_w80 => with_reducible assumption); (case hs_w80 => omega); k_whole); intro D'_w80 u1'_w80 u2'_w80 c'_w80 h'_w80 tk'_w80 F'_w80 N'_w80 sz'_w80; (try dsimp only); (try k_fold))
  k_with "kcj_all" => ((repeat' (first | (with_reducible assumption) | (with_reducible exact mem_same) | exact List.forall_mem_nil _ | (with_reducible refine' sub_cons ?_ ?_) | (with_reducible refine' List.forall_mem_cons.mpr ⟨?_, ?_⟩) | (with_reducible exact mem_appl) | (with_reducible refine' mem_step ?_) | (with_reducible refine' mem_apps ?_ ?_) | (with_reducible refine' mem_app ?_) | k_mem)); done)
  k_with "exec Assign cons ListComp" => (with_reducible refine wpAny_Assign_Subscript ?_ ?_; rotate_left; with_unfolding_all rfl)
  k_with "exec For Name Call cons nil" => (k_here; k_dflt (refine For_C ?_))
  k_with "pyIter ref" => ((with_reducible show wpAny _ _ (pyIter (Value.ref _)) (LoopC _ _ _ _ _ _ _ _ _) _ _); (refine Stop.out ?_))
  k_with "UnrEnd" => (refine Stop.out ?_)
  k_with "call type:list" => (k_here; (with_reducible show wpAny _ _ (call (Value.type _) [Value.ref _]) _ _ _); k_dflt (refine' list_led ?F_g1 ?N_g1 ?b_g1 ?e_g1 ?z_g1 ?_; (case F_g1 => k_asm); (case N_g1 => k_asm); (case b_g1 => k_mem); (case e_g1 => with_reducible assumption); (case z_g1 => omega)); intro D_g1 c_g1 h_g1 F_g1 N_g1 l1_g1; (replace l1_g1 := allLt_of l1_g1); (try k_sweep))
  k_with "CompSrc" => (refine Stop.out ?_)
  k_with "k_upd" => ((repeat' (first | (with_reducible refine' Del.head ?_) | (with_reducible refine' Del.tail ?_ ?_) | (with_reducible refine' Upd.head ?_) | (with_reducible refine' Upd.tail ?_ ?_) | (with_reducible refine' UpdF.head ?_) | (with_reducible refine' UpdF.tail ?_ ?_) | (with_reducible refine' Del.appN (by with_reducible assumption) ?_) | (with_reducible refine' Upd.appN (by with_reducible assumption) ?_) | k_all | k_ne)); done)
  k_with "subscriptTail Name Slice ref ref" => (k_here; (with_reducible show wpAny _ _ (subscriptTail _ (PySem.Expr.Slice _ _ none _) (Value.ref _) (Value.ref _)) _ _ _); k_dflt (refine' slice_led ?F_g4 ?N_g4 ?m_g4 ?p_g4 ?q_g4 ?e_g4 ?z_g4 ?_ ?s_g4 ?t_g4; (case F_g4 => k_asm); (case N_g4 => k_asm); (case m_g4 => k_mem); (case p_g4 => kmk_part); (case q_g4 => kmk_part); (case e_g4 => first | exact pick_from1 (by omega) | exact pick_from (by omega) | exact pick_upto (by omega)); (case z_g4 => omega); (case s_g4 => with_unfolding_all rfl); (case t_g4 => kmk_pure)); intro D_g4 h_g4 F_g4 N_g4 l_g4; (try k_sweep))
  k_with "subscriptTail Subscript Name Name Slice ref ref" => (k_here; (with_reducible show wpAny _ _ (subscriptTail _ (PySem.Expr.Slice _ _ none _) (Value.ref _) (Value.ref _)) _ _ _); k_dflt (refine' slice_led ?F_g4 ?N_g4 ?m_g4 ?p_g4 ?q_g4 ?e_g4 ?z_g4 ?_ ?s_g4 ?t_g4; (case F_g4 => k_asm); (case N_g4 => k_asm); (case m_g4 => k_mem); (case p_g4 => kmk_part); (case q_g4 => kmk_part); (case e_g4 => first | exact pick_from1 (by omega) | exact pick_from (by omega) | exact pick_upto (by omega)); (case z_g4 => omega); (case s_g4 => with_unfolding_all rfl); (case t_g4 => kmk_pure)); intro D_g4 h_g4 F_g4 N_g4 l_g4; (try k_sweep))
  k_with "binaryOp Add ref ref" => (k_here; (with_reducible show wpAny _ _ (binaryOp _ (Value.ref _) (Value.ref _)) _ _ _); k_dflt (refine' add_led ?F_g5 ?N_g5 ?m_g5 ?n_g5 ?z_g5 ?_; (case F_g5 => k_asm); (case N_g5 => k_asm); (case m_g5 => k_mem); (case n_g5 => k_mem); (case z_g5 => (simp only [List.length_take, List.length_drop, List.length_append, List.length_cons, List.length_nil]; omega))); intro D_g5 h_g5 F_g5 N_g5 l_g5; (try k_sweep))
  k_with "call builtin:list.append cons nil" => (k_here; k_dflt (refine' append_led ?k1_g6 ?k2_g6 ?k3_g6 ?z_g6 ?_; (case k1_g6 => k_asm); (case k2_g6 => k_asm); (case k3_g6 => k_upd); (case z_g6 => omega); k_whole); intro h_g6 F_g6 N_g6; (try k_sweep))
  k_with "call ref" => ((with_reducible show wpAny _ _ (call (Value.ref 148) _) _ _ _); (refine Stop.out ?_))
  k_with "call ref" => ((with_reducible show wpAny _ _ (call (Value.ref 143) _) _ _ _); (refine Stop.out ?_))
  k_with "call builtin:len" => (k_here; (with_reducible show wpAny _ _ (call (Value.builtin "len") [Value.ref _]) _ _ _); k_dflt (refine' len_led ?k1_g7 ?k2_g7 ?k3_g7 ?k4_g7 ?_; (case k1_g7 => k_asm); (case k2_g7 => k_mem); (case k3_g7 => with_reducible assumption); (case k4_g7 => omega); k_whole); (try dsimp only))
  trivial
theorem bpS_does (w : World) (mean : ExcName → Option Value) (mg mb : Str → Option Value) (G : Great mg) (n : Nat) (hn1 : 1 ≤ n) (hn2 : n ≤ 2) (kd : Nat) (hkd : 3 ≤ kd) (e sn : Nat)
    (IH : ∀ (news : List (Addr × Obj)) (D : Addr) (P : Nat → Nat → Rat), MatAt n n news D P e → Does w mean mg mb kd 148 news [.ref D] (DetPost (detN n P) news))
    (hz : ∀ P : Nat → Nat → Rat, (∀ i j, i < n → j < n → Sz e (P i j)) → Sz sn (detN n P)) (hs : szS (e + sn) (n + 1) ≤ 2300)
    (news : List (Addr × Obj)) (D : Addr) (P : Nat → Nat → Rat) (M : MatAt (n + 1) (n + 1) news D P e) :
    Does w mean mg mb (kd + 2) 148 news [.ref D] (RatPost (detN (n + 1) P).num (detN (n + 1) P).den news) := by
  intro dp un gd cn cs a ccd cl outer A₀ base h₀ L m s Q E B F X N T hk hd hu hret
  obtain ⟨vs, c, hl, hvl, hrows⟩ := M
  have hb : e + sn + 1 ≤ 2300 := Nat.le_trans (Nat.le_trans (by show e + sn + 1 ≤ szS (e + sn) 0 + (e + sn) + 1; omega) (szS_mono (q := e + sn) (show 1 ≤ n + 1 by omega))) hs
  rw [detN_succ hn1] at hret
  have hsz : ∀ i j, i < n + 1 → j < n + 1 → Sz e (P i j) := fun i j hi hj => by
    obtain ⟨_, _, _, _, _, _, hall⟩ := hrows i hi
    obtain ⟨_, _, _, _, _, _, h⟩ := hall j hj
    exact h
  refine wpAny_call ?_
  k_dflt (refine' code_defC (binds := [(PySem.Str.ofString "rows", .ref D)]) ?k1 ?k2 ?k3 ?k4 ?k5 ?kA ?kF ?kK ?k6 ?k7 ?k8 ?k9 ?kB ?kD ?_ ?c2 ?c3 ?c4; (case kA => exact rfl); (case kF => exact rfl); (case kK => assumption); (case k1 => k_asm); (case k2 => k_asm); (case k3 => k_asm); (case k4 => k_asm); (case k5 => k_asm); (case k6 => k_is); (case k7 => k_is); (case k8 => ktr_room); (case k9 => exact BindsTo.of_eq rfl); (case kB => exact rfl); (case kD => decide +kernel); (case c2 => exact rfl); (case c3 => exact rfl); (case c4 => exact rfl); k_whole)
  intro g' L' h' tk' cells' FG' F' N' Y' B' X' T' l1
  have l2 := allLt_of l1
  have l3 : AllLt (L' + 1) _ := AllLt.mono l2 (Nat.le_succ _)
  have l4 : AllLt (L' + 1 + 1) _ := AllLt.mono l3 (Nat.le_succ _)
  k_cells Y'
  (try simp only [List.cons_append, List.nil_append] at N')
  (try dsimp only)
  (try k_fold)
  k_steps
  · exfalso; omega
  refine Stop.mk ?_
  refine' iter_st (J := (fun I v mm nw => LCg.Off1 I nw ∧ SB L' D news (fun _ => True) (partN n P) (e + sn) v.toNat mm nw)) (T := fun mm nw => SB L' D news (fun _ => True) (partN n P) (e + sn) 0 mm nw) rfl ?hr ?hab ?F ?N ?hE ?st ?mono ?h2 ?h3
  (case hr => assumption)
  (case hab => omega)
  (case F => k_asm)
  (case N => k_asm)
  (case hE => first | passes_own | with_unfolding_all passes_own)
  case st =>
    (refine' SB.intro ?D1 ?D2 ?h0 ?h1 ?hd ?cA ?hb ?it; (case h0 => first | rfl | assumption); (case h1 => first | rfl | assumption); (case D1 => k_upd); (case D2 => k_upd); (case hd => with_reducible assumption); (case hb => kcj_all))
    case cA => exact trivial
    case it => exact Items.nil
  case mono => exact fun I nw ho hh => ⟨ho, hh⟩
  case h2 =>
    clear l2 l3 l4
    intro I1 v0 m0 nw0 g1 g2 hJ0 it1 t1 h1 tk1 F1 N1
    (try k_fold)
    obtain ⟨oI, Dp, ps, cp, oA, vA, rest, hrw, hpt, dA, cA, rfl, n1, b1, b2, hbs, hit⟩ := hJ0
    obtain ⟨w1, w2, b3⟩ := off2_of oI
    clear oI
    have gvn : v0.toNat ≤ n := by omega
    have gv63 : v0 < 2 ^ 63 := by omega
    have hpl : ps.length = v0.toNat := hit.1
    obtain ⟨ra, hra, asa, ca, hla, hlen, hall⟩ := hrows 0 (by omega)
    obtain ⟨xa, xs, xu, xk, hxa, hxm, hxz⟩ := hall v0.toNat (by omega)
    replace hl := hbs _ hl
    replace hla := hbs _ hla
    replace hxm := hbs _ hxm
    have hra0 : vs[(0 : Int).toNat]? = some (.ref ra) := hra
    k_steps
    refine Stop.mk ?_
    refine comp_list (KRowB n (minorP P v0.toNat) e rest) KRowB.mono (by rfl) (by k_asm) (by k_asm) (by k_mem) (by rw [List.length_drop, hvl]) (by omega) ?stepC ?finC
    case stepC =>
      intro ic ysc tlc hic itc apc vc Ic oIc Cc oCc Dc mC hC tkc Ec hvc hCc hxc Fc Nc offc nec
      obtain ⟨r1, hr1, as1, c1, h1a, h1b, h1c⟩ := hrows (ic + 1) (by omega)
      obtain rfl : vc = .ref r1 := Option.some.inj (hvc.symm.trans ((drop1_get (vs := vs) (i := ic)).trans hr1))
      replace h1a := hbs _ h1a
      k_steps
      (iterate 6 (try ((try show (_ : Value → Shared → Prop) _ _); k_unfold; (try dsimp only))))
      exact ItemEnd.three (by k_asm) (by k_asm) (by assumption) ⟨_, rfl, cut_row h1b (fun j hj => let ⟨a, s, u, k, e1, e2, e3⟩ := h1c j hj; ⟨a, s, u, k, e1, List.mem_append_right _ (hbs _ e2), e3⟩) gvn (.head _)⟩
    case finC =>
    intro gc ysc tlc itc apc
    refine FinA.perm perm3d ?_
    have y1 := Away.all apc (a := L' + 1) (rest := rest) (by k_mem) (by k_all)
    have y2 := Away.all apc (a := Dp) (rest := rest) (by k_mem) (by k_all)
    have y3 := Away.all apc (a := I1) (rest := rest) (by k_mem) (by k_all)
    k_steps
    refine Stop.mk ?_
    refine' Does.use (IH _ _ (minorP P v0.toNat) ?M) ?k1 ?k2 ?k3 ?k4 ?k5 ?kK ?kd ?ku ?ret
    (case k1 => k_asm)
    (case k2 => k_asm)
    (case k3 => k_asm)
    (case k4 => k_asm)
    (case k5 => k_asm)
    (case kK => first | exact rfl | assumption)
    (case kd => ktr_room)
    (case ku => ktr_units)
    case M => exact ⟨_, _, by k_mem, rowsB_of itc (by kcj_all) (by kcj_all)⟩
    case ret =>
    intro rq nq h3 tk3 F3 N3 hP
    (try k_fold)
    obtain ⟨Dq, sq, uq, kq, tlq, rfl, rfl, hqm, apq⟩ := hP
    have q1 := Away.one apq (a := L' + 1) (by k_mem)
    have q2 := Away.one apq (a := Dp) (by k_mem)
    have q3 := Away.one apq (a := I1) (by k_mem)
    have hqz : Sz sn (detN n (minorP P v0.toNat)) := hz _ fun i j hi hj => hsz (i + 1) _ (by omega) (by split <;> omega)
    have hp3 : Sz (e + sn) (P 0 v0.toNat * detN n (minorP P v0.toNat)) := Sz.mul hxz hqz
    k_steps
    · refine Stop.mk ?_
      refine' unrEnd_st (T := fun mm nw => SB L' D news (fun _ => True) (partN n P) (e + sn) (v0 + 1).toNat mm nw) ?F ?N ?d0 ?st ?mono ?off
      (case F => k_asm)
      (case N => k_asm)
      (case d0 => k_upd)
      case st =>
        (refine' SB.intro ?D1 ?D2 ?h0 ?h1 ?hd ?cA ?hb ?it; (case h0 => first | rfl | assumption); (case h1 => first | rfl | assumption); (case D1 => k_upd); (case D2 => k_upd); (case hd => with_reducible assumption); (case hb => kcj_all))
        case cA => exact trivial
        case it =>
          rw [toNat_s g1]
          exact Items.snoc KRat.mono hit (by kcj_all) (krat_of (part_even g1 (by assumption)) (by k_mem) (by with_reducible assumption) (Nat.le_refl _))
      case mono => exact fun nw ho hh => ⟨ho, hh⟩
      case off => exact fun _ _ hh => hh.1
    · refine Stop.mk ?_
      refine' unrEnd_st (T := fun mm nw => SB L' D news (fun _ => True) (partN n P) (e + sn) (v0 + 1).toNat mm nw) ?F ?N ?d0 ?st ?mono ?off
      (case F => k_asm)
      (case N => k_asm)
      (case d0 => k_upd)
      case st =>
        (refine' SB.intro ?D1 ?D2 ?h0 ?h1 ?hd ?cA ?hb ?it; (case h0 => first | rfl | assumption); (case h1 => first | rfl | assumption); (case D1 => k_upd); (case D2 => k_upd); (case hd => with_reducible assumption); (case hb => kcj_all))
        case cA => exact trivial
        case it =>
          rw [toNat_s g1]
          exact Items.snoc KRat.mono hit (by kcj_all) (krat_of (part_odd g1 (by assumption)) (by k_mem) (by with_reducible assumption) (Nat.le_refl _))
      case mono => exact fun nw ho hh => ⟨ho, hh⟩
      case off => exact fun _ _ hh => hh.1
  case h3 =>
    intro I1 m1 nw1 hJ0
    refine TurnsC.zero ?_
    intro h2 tk2 F2 N2
    (try k_fold)
    obtain ⟨oI, Dp, ps, cp, oA, vA, rest, hrw, hpt, dA, cA, rfl, n1, b1, b2, hbs, hit⟩ := hJ0
    obtain ⟨w1, w2, b3⟩ := off2_of oI
    clear oI
    k_steps
    refine Stop.mk ?_
    refine' Does.use (total_does w mean mg mb G _ _ _ _ (partN n P) (e + sn) (n + 1) ?hl ?hit ?hn hs) ?k1 ?k2 ?k3 ?k4 ?k5 ?kK ?kd ?ku ?ret
    (case k1 => k_asm)
    (case k2 => k_asm)
    (case k3 => k_asm)
    (case k4 => k_asm)
    (case k5 => k_asm)
    (case kK => first | exact rfl | assumption)
    (case kd => ktr_room)
    (case ku => ktr_units)
    (case hl => k_mem)
    (case hit => exact (show Items (KRat (partN n P) (e + sn)) (n + 1) ps rest from hit).sub KRat.mono (by kcj_all))
    (case hn => omega)
    case ret =>
    intro rq nq h3 tk3 F3 N3 hP
    (try k_fold)
    obtain ⟨Dq, sq, uq, kq, rfl, rfl, lq⟩ := hP
    k_steps
    all_goals (refine' rat_ret hret ?eF ?eN ?em ?es ?el ?_ ?_; (case eF => k_asm); (case eN => k_asm); (case em => k_mem); (case es => kcj_all); (case el => first | assumption | exact allLt_of (by assumption) | (refine' AllLt.sub ?oa ?ob; (case oa => assumption); (case ob => kcj_all))))
    all_goals exact rfl
def r3 (a b c : Rat) : Nat → Rat
  | 0 => a
  | 1 => b
  | _ + 2 => c
theorem RowAt.of3 {led : List (Addr × Obj)} {r : Addr} {p : Nat → Rat} {e c : Nat} {a0 : Addr} {s0 u0 : Tok} {k0 e0 : Nat} {q0 : Rat} {a1 : Addr} {s1 u1 : Tok} {k1 e1 : Nat} {q1 : Rat} {a2 : Addr} {s2 u2 : Tok} {k2 e2 : Nat} {q2 : Rat}
    (h : (r, listObj [.ref a0, .ref a1, .ref a2] c) ∈ led) (m0 : (a0, tup2 q0.num s0 q0.den u0 k0) ∈ led) (z0 : Sz e0 q0) (l0 : e0 ≤ e) (w0 : q0 = p 0) (m1 : (a1, tup2 q1.num s1 q1.den u1 k1) ∈ led) (z1 : Sz e1 q1) (l1 : e1 ≤ e) (w1 : q1 = p 1) (m2 : (a2, tup2 q2.num s2 q2.den u2 k2) ∈ led) (z2 : Sz e2 q2) (l2 : e2 ≤ e) (w2 : q2 = p 2) : RowAt 3 led r p e := by
  subst w0 w1 w2
  refine ⟨[.ref a0, .ref a1, .ref a2], c, h, rfl, fun j hj => ?_⟩
  rcases lt3 hj with rfl | rfl | rfl
  · exact ⟨a0, s0, u0, k0, rfl, m0, z0.mono l0⟩
  · exact ⟨a1, s1, u1, k1, rfl, m1, z1.mono l1⟩
  · exact ⟨a2, s2, u2, k2, rfl, m2, z2.mono l2⟩
theorem Does.mono {w : World} {mean : ExcName → Option Value} {mg mb : Str → Option Value} {k k' : Nat} {f : Addr} {news : List (Addr × Obj)} {vs : List Value} {Post Post' : List (Addr × Obj) → Value → Prop} (h : k ≤ k') (hp : ∀ n r, Post n r → Post' n r) (D : Does w mean mg mb k f news vs Post) : Does w mean mg mb k' f news vs Post' :=
  fun dp un gd cn cs a ccd cl outer A₀ base h₀ L m s Q E B F X N T hk hd hu ret => D dp un gd cn cs a ccd cl outer A₀ base h₀ L m s Q E B F X N T hk (by omega) (by omega) fun r n h' tk F' N' p => ret r n h' tk F' N' (hp n r p)
theorem list1 {vs : List Value} {v : Value} (h : vs.length = 1) (h0 : vs[0]? = some v) : vs = [v] := by
  match vs, h with
  | [x], _ => rw [Option.some.inj h0]
theorem bp1_det (w : World) (mean : ExcName → Option Value) (mg mb : Str → Option Value) (e : Nat) (news : List (Addr × Obj)) (D : Addr) (P : Nat → Nat → Rat) (M : MatAt 1 1 news D P e) : Does w mean mg mb 3 148 news [.ref D] (DetPost (detN 1 P) news) := by
  obtain ⟨vs, c, hl, hvl, hrows⟩ := M
  obtain ⟨r, hr, as, c1, ha, hlen, hall⟩ := hrows 0 (by decide)
  obtain ⟨x, s, u, k, hx, hm, hz⟩ := hall 0 (by decide)
  obtain rfl := list1 hvl hr
  obtain rfl := list1 hlen hx
  exact Does.mono (by decide) (fun n r ⟨h1, h2⟩ => ⟨x, s, u, k, [], h1, h2, h2 ▸ hm, Away.nil⟩) (bp1_does w mean mg mb news D r x c c1 hl ha)
theorem det_of_rat {q : Rat} {news news' : List (Addr × Obj)} {r : Value} (h : RatPost q.num q.den news news' r) : DetPost q news news' r :=
  let ⟨D, u1, u2, c, e1, e2, l⟩ := h
  ⟨D, u1, u2, c, [(D, tup2 q.num u1 q.den u2 c)], e1, e2, e2 ▸ .head _, away1 l fun _ h => h⟩
theorem signed_sz {a e : Nat} {q : Rat} (h : Sz e q) : Sz e (signed a q) := by
  unfold signed; split
  · exact h
  · exact h.neg
theorem bp2_det (w : World) (mean : ExcName → Option Value) (mg mb : Str → Option Value) (G : Great mg) (e : Nat) (hs : 4 * e + 2 ≤ 2300) (news : List (Addr × Obj)) (D : Addr) (P : Nat → Nat → Rat) (M : MatAt 2 2 news D P e) : Does w mean mg mb 5 148 news [.ref D] (RatPost (detN 2 P).num (detN 2 P).den news) :=
  bpS_does w mean mg mb G 1 (by decide) (by decide) 3 (by decide) e e (bp1_det w mean mg mb e) (fun P h => h 0 0 (by decide) (by decide)) (by show 0 + (e + e) + 1 + (e + e) + 1 ≤ 2300; omega) news D P M
theorem bp3_det (w : World) (mean : ExcName → Option Value) (mg mb : Str → Option Value) (G : Great mg) (e : Nat) (hs : 15 * e + 9 ≤ 2300) (news : List (Addr × Obj)) (D : Addr) (P : Nat → Nat → Rat) (M : MatAt 3 3 news D P e) : Does w mean mg mb 7 148 news [.ref D] (RatPost (detN 3 P).num (detN 3 P).den news) :=
  bpS_does w mean mg mb G 2 (by decide) (by decide) 5 (by decide) e (4 * e + 2) (fun news D P M => Does.mono (Nat.le_refl _) (fun _ _ => det_of_rat) (bp2_det w mean mg mb G e (by omega) news D P M))
    (fun P h => (Sz.add (Sz.add Sz.zero (signed_sz (Sz.mul (h 0 0 (by decide) (by decide)) (h 1 1 (by decide) (by decide))))) (signed_sz (Sz.mul (h 0 1 (by decide) (by decide)) (h 1 0 (by decide) (by decide))))).mono (by omega))
    (by show 0 + (e + (4 * e + 2)) + 1 + (e + (4 * e + 2)) + 1 + (e + (4 * e + 2)) + 1 ≤ 2300; omega) news D P M
theorem det2_eq {P : Nat → Nat → Rat} : detN 2 P = P 0 0 * P 1 1 + -(P 0 1 * P 1 0) := by
  show 0 + P 0 0 * P 1 1 + -(P 0 1 * P 1 0) = _
  rw [Rat.zero_add]
theorem det3_eq {P : Nat → Nat → Rat} : detN 3 P = P 0 0 * (P 1 1 * P 2 2 + -(P 1 2 * P 2 1)) + -(P 0 1 * (P 1 0 * P 2 2 + -(P 1 2 * P 2 0))) + P 0 2 * (P 1 0 * P 2 1 + -(P 1 1 * P 2 0)) := by
  show 0 + P 0 0 * detN 2 (minorP P 0) + -(P 0 1 * detN 2 (minorP P 1)) + P 0 2 * detN 2 (minorP P 2) = _
  rw [Rat.zero_add, det2_eq, det2_eq, det2_eq]
  rfl
end Mine
end
section
open PySem PySem.W PyProof.Rows PySem.Calls PySem.Spec PyProof.V
set_option Elab.async false
set_option maxRecDepth 100000
set_option maxHeartbeats 8000000
namespace Mine
section
variable {prog : Program} {w : World} {A : Around} {s : Shared} {h₀ : Heap} {L : Addr} {m : Str → Option Value} {env : Env} {elt : PySem.Expr} {x : Str} {scope : Scope} {cl : List (Str × Addr)}
  {S : List (Addr × Obj) → Prop} {P : Nat → Value → Prop} {Fin : List Value → List (Addr × Obj) → Prop} {news : List (Addr × Obj)}
theorem RestC.inv (J : Nat → List Value → List (Addr × Obj) → Prop) {n : Nat}
    (step : ∀ i ys nw, i < n → J i ys nw → ∀ v I oI C oC D X oX h tk (E' : Value → Shared → Prop), P i v → oX.data = .cell (some v) → Fr h₀ L h m → News h₀ L h ((I, oI) :: (C, oC) :: (D, LCg.lst ys) :: (X, oX) :: nw) → LCg.Off3 I C D ((X, oX) :: nw) → LCg.Off1 X nw → (@Ne Nat I C ∧ @Ne Nat I D ∧ @Ne Nat C D) →
      wpAny (model prog w) A (eval elt (compEnvC scope ((x, X) :: cl) C env)) (EndC h₀ L m { s with heap := h, toks := tk } I oI C oC D (LCg.lst ys) X oX S (fun y nw' => J (i + 1) (ys ++ [y]) nw')) E' { s with heap := h, toks := tk })
    (fin : ∀ ys nw, J n ys nw → Fin ys nw) : ∀ (k i : Nat) (ys : List Value) (nw : List (Addr × Obj)), i + k = n → J i ys nw → RestC prog w A h₀ L m env elt x scope cl s S P Fin k i ys nw
  | 0, i, ys, nw, e, j => fin ys nw (by rw [← e]; exact j)
  | k + 1, i, ys, nw, e, j => fun v I oI C oC D X oX h tk E' h1 h2 h3 h4 h5 h6 h7 =>
    wpAny_mono (step i ys nw (by omega) j v I oI C oC D X oX h tk E' h1 h2 h3 h4 h5 h6 h7)
      (fun _ _ ⟨h', tk', news', a, b, c, d, f, g, r⟩ => ⟨h', tk', news', a, b, c, d, f, g, RestC.inv J step fin k (i + 1) _ _ (by omega) r⟩) fun _ _ e => e
theorem comp_itemsC (K : Nat → Value → List (Addr × Obj) → Prop) (hK : MonoK K) {n : Nat} (hSm : ∀ l l', (∀ p ∈ l, p ∈ l') → S l → S l') (hS : S news)
    (step : ∀ i ys tl, i < n → Items K i ys tl → Away tl news → ∀ v I oI C oC D X oX h tk (E' : Value → Shared → Prop), P i v → oX.data = .cell (some v) → Fr h₀ L h m → News h₀ L h ((I, oI) :: (C, oC) :: (D, LCg.lst ys) :: (X, oX) :: (tl ++ news)) → LCg.Off3 I C D ((X, oX) :: (tl ++ news)) → LCg.Off1 X (tl ++ news) → Ne3 I C D →
      wpAny (model prog w) A (eval elt (compEnvC scope ((x, X) :: cl) C env)) (ItemEnd h₀ L m { s with heap := h, toks := tk } ((I, oI) :: (C, oC) :: (D, LCg.lst ys) :: (X, oX) :: (tl ++ news)) (K i) tl) E' { s with heap := h, toks := tk })
    (fin : ∀ ys tl, Items K n ys tl → Away tl news → Fin ys (tl ++ news)) : RestC prog w A h₀ L m env elt x scope cl s S P Fin n 0 [] news :=
  RestC.inv (fun i ys nw => ∃ tl, nw = tl ++ news ∧ Away tl news ∧ S nw ∧ Items K i ys tl)
    (fun i ys nw hi ⟨tl, e, ap, hSn, it⟩ v I oI C oC D X oX h tk E' h1 h2 h3 h4 h5 h6 h7 => by
      subst e
      refine wpAny_mono (step i ys tl hi it ap v I oI C oC D X oX h tk E' h1 h2 h3 h4 h5 h6 (Ne3.mk' h7)) (fun y s₂ hy => ?_) fun _ _ e => e
      obtain ⟨h', tk', all, small, e, F, N, hb, hs, ho, hk⟩ := hy
      obtain ⟨t9, a9, b9, c9⟩ := split_ledger N hb
      have o6 := LCg.Off3.mem h5
      have o7 := off1_mem h6
      refine ⟨h', tk', t9 ++ (tl ++ news), e, F, fun p hp => N p ?_, LCg.Off3.of fun p hp => ?_, off1_ofD fun p hp => ?_, hSm _ _ (fun p hp => List.mem_append_right _ hp) hSn, t9 ++ tl, (List.append_assoc _ _ _).symm, Away.app (fun p hp q hq => c9 p hp q (.tail _ (.tail _ (.tail _ (.tail _ hq))))) ap, hSm _ _ (fun p hp => List.mem_append_right _ hp) hSn, it.snoc hK (fun p hp => List.mem_append_right _ hp) (hK _ _ _ _ hk fun p hp => ?_)⟩
      · rcases List.mem_cons.mp hp with rfl | hp
        · exact hb _ (.head _)
        · rcases List.mem_cons.mp hp with rfl | hp
          · exact hb _ (.tail _ (.head _))
          · rcases List.mem_cons.mp hp with rfl | hp
            · exact hb _ (.tail _ (.tail _ (.head _)))
            · rcases List.mem_cons.mp hp with rfl | hp
              · exact hb _ (.tail _ (.tail _ (.tail _ (.head _))))
              · rcases List.mem_append.mp hp with hp | hp
                · exact b9 p (List.mem_append_left _ hp)
                · exact hb p (.tail _ (.tail _ (.tail _ (.tail _ hp))))
      · rcases List.mem_cons.mp hp with rfl | hp
        · exact o6 _ (.head _)
        · rcases List.mem_append.mp hp with hp | hp
          · exact ⟨Ne.symm (c9 p hp (I, oI) (.head _)), Ne.symm (c9 p hp (C, oC) (.tail _ (.head _))), Ne.symm (c9 p hp (D, LCg.lst ys) (.tail _ (.tail _ (.head _))))⟩
          · exact o6 p (.tail _ hp)
      · rcases List.mem_append.mp hp with hp | hp
        · exact Ne.symm (c9 p hp (X, oX) (.tail _ (.tail _ (.tail _ (.head _)))))
        · exact o7 p hp
      · rcases List.mem_append.mp hp with hp | hp
        · rcases List.mem_append.mp (a9 p (hs p hp)) with h | h
          · exact List.mem_append_left _ h
          · exact absurd rfl (ho p hp p h)
        · exact List.mem_append_right _ hp)
    (fun ys nw ⟨tl, e, ap, _, it⟩ => by subst e; exact fin ys tl it ap) n 0 [] news (Nat.zero_add _) ⟨[], rfl, Away.nil, hS, Items.nil⟩
theorem comp_listC {Fin : Shared → List Value → List (Addr × Obj) → Prop} {ax : Addr} {vs : List Value} {k n : Nat} {s₁ : Shared} (K : Nat → Value → List (Addr × Obj) → Prop) (hK : MonoK K)
    (hh : A.handled = none) (F : Fr h₀ L s₁.heap m) (N : News h₀ L s₁.heap news) (hm : (ax, listObj vs k) ∈ news) (hl : vs.length = n) (hsz : n ≤ 100)
    (step : ∀ i ys tl, i < n → Items K i ys tl → Away tl news → ∀ v I oI C oC D X oX h tk (E' : Value → Shared → Prop), vs[i]? = some v → oX.data = .cell (some v) → Fr h₀ L h m → News h₀ L h ((I, oI) :: (C, oC) :: (D, LCg.lst ys) :: (X, oX) :: (tl ++ news)) → LCg.Off3 I C D ((X, oX) :: (tl ++ news)) → LCg.Off1 X (tl ++ news) → Ne3 I C D →
      wpAny (model prog w) A (eval elt (compEnvC scope ((x, X) :: cl) C env)) (ItemEnd h₀ L m { s₁ with heap := h, toks := tk } ((I, oI) :: (C, oC) :: (D, LCg.lst ys) :: (X, oX) :: (tl ++ news)) (K i) tl) E' { s₁ with heap := h, toks := tk })
    (fin : ∀ g ys tl, Items K n ys tl → Away tl news → Fin { s₁ with heap := g } ys (tl ++ news)) : SrcC prog w A h₀ L m env elt x scope cl Fin (.ref ax) s₁ := by
  subst hl
  have e : (fun (i : Nat) (v : Value) => vs.toArray[i]? = some v) = fun i v => vs[i]? = some v := by funext i v; rw [List.getElem?_toArray]
  refine SrcC.ledger hh F N hm (Nat.le_trans (Nat.le_of_eq List.size_toArray) (Nat.le_trans hsz (by decide))) fun g => ?_
  rw [e, List.size_toArray]
  exact comp_itemsC K hK (fun _ _ hs h => h.elim .inl fun ⟨o, a, b⟩ => .inr ⟨o, hs _ a, b⟩) (.inr ⟨_, hm, rfl, _, rfl⟩) step (fin g)
theorem comp_rangeC {Fin : Shared → List Value → List (Addr × Obj) → Prop} {r : Addr} {n : Nat} {t u v : Tok} {s₁ : Shared} (K : Nat → Value → List (Addr × Obj) → Prop) (hK : MonoK K)
    (hh : A.handled = none) (F : Fr h₀ L s₁.heap m) (N : News h₀ L s₁.heap news) (hr : IsRange s₁.heap r 0 (n : Int) 1 t u v) (hsz : n ≤ 100)
    (step : ∀ i ys tl, i < n → Items K i ys tl → Away tl news → ∀ t I oI C oC D X oX h tk (E' : Value → Shared → Prop), oX.data = .cell (some (.int (i : Int) t)) → Fr h₀ L h m → News h₀ L h ((I, oI) :: (C, oC) :: (D, LCg.lst ys) :: (X, oX) :: (tl ++ news)) → LCg.Off3 I C D ((X, oX) :: (tl ++ news)) → LCg.Off1 X (tl ++ news) → Ne3 I C D →
      wpAny (model prog w) A (eval elt (compEnvC scope ((x, X) :: cl) C env)) (ItemEnd h₀ L m { s₁ with heap := h, toks := tk } ((I, oI) :: (C, oC) :: (D, LCg.lst ys) :: (X, oX) :: (tl ++ news)) (K i) tl) E' { s₁ with heap := h, toks := tk })
    (fin : ∀ g ys tl, Items K n ys tl → Away tl news → Fin { s₁ with heap := g } ys (tl ++ news)) : SrcC prog w A h₀ L m env elt x scope cl Fin (.ref r) s₁ :=
  SrcC.range hh F N hr (small_range (by omega) (by omega) (by omega) (by omega)) (by rw [size_up (by omega)]; omega) (Nat.le_trans hsz (by decide)) fun g => comp_itemsC K hK (fun _ _ _ _ => trivial) trivial
    (fun i ys tl hi it ap v I oI C oC D X oX h tk E' ⟨t, e⟩ hX => step i ys tl hi it ap t I oI C oC D X oX h tk E' (by rw [hX, e, Int.zero_add])) (fin g)
end
def KRatB (q : Nat → Rat) (e : Nat) (b0 : List (Addr × Obj)) (j : Nat) (y : Value) (led : List (Addr × Obj)) : Prop := ∃ a s u k, y = .ref a ∧ (a, tup2 (q j).num s (q j).den u k) ∈ led ++ b0 ∧ Sz e (q j)
theorem KRatB.mono {q : Nat → Rat} {e : Nat} {b0 : List (Addr × Obj)} : MonoK (KRatB q e b0) := fun _ _ _ _ ⟨a, s, u, k, h1, h2, h3⟩ hs => ⟨a, s, u, k, h1, (List.mem_append.mp h2).elim (fun h => List.mem_append_left _ (hs _ h)) (List.mem_append_right _), h3⟩
theorem rowB_of {m : Nat} {q : Nat → Rat} {e c : Nat} {as : List Value} {r : Addr} {led tl b0 : List (Addr × Obj)} (h : Items (KRatB q e b0) m as tl) (hr : (r, listObj as c) ∈ led) (h1 : ∀ p ∈ tl, p ∈ led) (h2 : ∀ p ∈ b0, p ∈ led) : RowAt m led r q e :=
  ⟨as, c, hr, h.1, fun j hj => let ⟨_, g1, a, s, u, k, g2, g3, g4⟩ := h.2 j hj; ⟨a, s, u, k, by rw [g1, g2], (List.mem_append.mp g3).elim (h1 _) (h2 _), g4⟩⟩
theorem ItemEnd.zero {h₀ h' : Heap} {L : Addr} {m : Str → Option Value} {s₁ : Shared} {base4 : List (Addr × Obj)} {K : Value → List (Addr × Obj) → Prop} {tl l : List (Addr × Obj)} {v : Value} {tk : Nat} (F : Fr h₀ L h' m) (N : News h₀ L h' l) (hs : ∀ p ∈ base4, p ∈ l) (hk : K v tl) :
    ItemEnd h₀ L m s₁ base4 K tl v { s₁ with heap := h', toks := tk } :=
  .intro [] F N hs (fun _ hp => nomatch hp) (fun _ hp => nomatch hp) hk
theorem ItemEnd.list {h₀ h' : Heap} {L : Addr} {m : Str → Option Value} {s₁ : Shared} {base4 : List (Addr × Obj)} {K : Value → List (Addr × Obj) → Prop} {tl tl2 : List (Addr × Obj)} {v : Value} {tk : Nat} {D : Addr} {o : Obj} (F : Fr h₀ L h' m) (N : News h₀ L h' ((D, o) :: (tl2 ++ base4))) (o1 : LCg.Off1 D (tl2 ++ base4)) (ap : Away tl2 base4) (hk : K v ((D, o) :: (tl2 ++ tl))) :
    ItemEnd h₀ L m s₁ base4 K tl v { s₁ with heap := h', toks := tk } :=
  .intro ((D, o) :: tl2) F N (fun _ hp => .tail _ (List.mem_append_right _ hp)) (fun p hp => by
    rcases List.mem_cons.mp hp with rfl | hp
    · exact .head _
    · exact .tail _ (List.mem_append_left _ hp)) (away2 o1 ap fun _ h => h) hk
theorem perm2 {α : Type} {a b : α} {tl l : List α} : ∀ p ∈ a :: b :: (tl ++ l), p ∈ tl ++ a :: b :: l := perm_in (h := [a, b])
def mulN (n : Nat) (P Q : Nat → Nat → Rat) (i j : Nat) : Rat := sumTo (fun k => P i k * Q k j) n
theorem sumTo_sz {f : Nat → Rat} {e : Nat} : ∀ {n : Nat}, (∀ k, k < n → Sz e (f k)) → Sz (szS e n) (sumTo f n)
  | 0, _ => Sz.zero
  | n + 1, h => Sz.add (sumTo_sz fun k hk => h k (by omega)) (h n (by omega))
inductive MatOut (n m : Nat) (R : Nat → Nat → Rat) (e : Nat) (news news' : List (Addr × Obj)) (r : Value) : Prop
  | mk (D : Addr) (tl : List (Addr × Obj)) (f0 : r = .ref D) (f1 : news' = tl ++ news) (f2 : MatAt n m tl D R e) (f3 : Away tl news) : MatOut n m R e news news' r
theorem mat_out {n m e : Nat} {R : Nat → Nat → Rat} {h₀ h' : Heap} {L : Addr} {mm : Str → Option Value} {s : Shared} {Q : Value → Shared → Prop} {news base tl : List (Addr × Obj)} {tk : Nat} {D : Addr} {ys : List Value}
    (hret : ∀ r news' h' tk', Fr h₀ L h' mm → News h₀ L h' news' → MatOut n m R e news news' r → Q r { s with heap := h', toks := tk' })
    (F' : Fr h₀ L h' mm) (N : News h₀ L h' ((D, LCg.lst ys) :: (tl ++ base))) (o1 : LCg.Off1 D (tl ++ base)) (ap : Away tl base) (hs : ∀ p ∈ news, p ∈ base) (it : Items (KRow m R e) n ys tl) : Q (.ref D) { s with heap := h', toks := tk } :=
  hret _ (((D, LCg.lst ys) :: tl) ++ news) _ _ F' (fun p hp => N p (by
    rcases List.mem_cons.mp hp with rfl | hp
    · exact .head _
    · rcases List.mem_append.mp hp with hp | hp
      · exact .tail _ (List.mem_append_left _ hp)
      · exact .tail _ (List.mem_append_right _ (hs p hp)))) ⟨D, (D, LCg.lst ys) :: tl, rfl, rfl, ⟨ys, _, .head _, rows_of (it.sub KRow.mono fun p hp => .tail _ hp)⟩, away2 o1 ap hs⟩
theorem wordsg19 : True := by
  k_with_none
  k_with "execs cons" => first | (k_here; k_gentoks) | ((with_reducible refine wpAny_execs_cons ?_); k_fold)
  k_with "k_mem" => ((repeat' (first | (with_reducible exact mq0) | ktr_member | (with_reducible exact mq1) | (with_reducible exact mq2) | (with_reducible exact mq3) | (with_reducible exact mq4) | (with_reducible exact mq5) | (with_reducible exact mq6) | (with_reducible exact mq7) | (with_reducible exact mq8) | (with_reducible exact mq9) | (with_reducible refine List.mem_append_right _ ?_) | (with_reducible refine mqt ?_))); done)
  k_with "mul_fits" => exact Fit.mul (by assumption) (by assumption)
  k_with "k_ne" => first | (with_reducible refine' neN ?oa_w11; (case oa_w11 => with_reducible assumption)) | (refine' ne_symN ?oa_w11; (case oa_w11 => with_reducible assumption)) | (refine' nsl1 ?oa_w11; (case oa_w11 => repeat' (first | exact Nat.le_refl _ | refine Nat.le_succ_of_le ?_))) | (refine' nsr1 ?oa_w11; (case oa_w11 => repeat' (first | exact Nat.le_refl _ | refine Nat.le_succ_of_le ?_))) | (refine' Ne3.ci ?oa_w11; (case oa_w11 => with_reducible assumption)) | (refine' Ne3.di ?oa_w11; (case oa_w11 => with_reducible assumption)) | (refine' Ne3.dc ?oa_w11; (case oa_w11 => with_reducible assumption)) | (refine' ne_lt ?oa_w11 ?ob_w11; (case oa_w11 => with_reducible assumption); (case ob_w11 => k_mem)) | (refine' ne_lt' ?oa_w11 ?ob_w11; (case oa_w11 => with_reducible assumption); (case ob_w11 => k_mem)) | (refine' ne_off1 ?oa_w11 ?ob_w11; (case oa_w11 => with_reducible assumption); (case ob_w11 => k_mem)) | (refine' ne_off1' ?oa_w11 ?ob_w11; (case oa_w11 => with_reducible assumption); (case ob_w11 => k_mem)) | (refine' ne_off3I ?oa_w11 ?ob_w11; (case oa_w11 => with_reducible assumption); (case ob_w11 => k_mem)) | (refine' ne_off3C ?oa_w11 ?ob_w11; (case oa_w11 => with_reducible assumption); (case ob_w11 => k_mem)) | (refine' ne_off3D ?oa_w11 ?ob_w11; (case oa_w11 => with_reducible assumption); (case ob_w11 => k_mem)) | (refine' ne_off3I' ?oa_w11 ?ob_w11; (case oa_w11 => with_reducible assumption); (case ob_w11 => k_mem)) | (refine' ne_off3C' ?oa_w11 ?ob_w11; (case oa_w11 => with_reducible assumption); (case ob_w11 => k_mem)) | (refine' ne_off3D' ?oa_w11 ?ob_w11; (case oa_w11 => with_reducible assumption); (case ob_w11 => k_mem)) | ((refine neN ?_); (try dsimp only); first | (with_reducible assumption) | (refine' ne_symN ?oa_w11; (case oa_w11 => with_reducible assumption)) | (refine' nsl1 ?oa_w11; (case oa_w11 => repeat' (first | exact Nat.le_refl _ | refine Nat.le_succ_of_le ?_))) | (refine' nsr1 ?oa_w11; (case oa_w11 => repeat' (first | exact Nat.le_refl _ | refine Nat.le_succ_of_le ?_))) | (refine' Ne3.ci ?oa_w11; (case oa_w11 => with_reducible assumption)) | (refine' Ne3.di ?oa_w11; (case oa_w11 => with_reducible assumption)) | (refine' Ne3.dc ?oa_w11; (case oa_w11 => with_reducible assumption)) | (refine' ne_lt ?oa_w11 ?ob_w11; (case oa_w11 => with_reducible assumption); (case ob_w11 => k_mem)) | (refine' ne_lt' ?oa_w11 ?ob_w11; (case oa_w11 => with_reducible assumption); (case ob_w11 => k_mem)) | (refine' ne_off1 ?oa_w11 ?ob_w11; (case oa_w11 => with_reducible assumption); (case ob_w11 => k_mem)) | (refine' ne_off1' ?oa_w11 ?ob_w11; (case oa_w11 => with_reducible assumption); (case ob_w11 => k_mem)) | (refine' ne_off3I ?oa_w11 ?ob_w11; (case oa_w11 => with_reducible assumption); (case ob_w11 => k_mem)) | (refine' ne_off3C ?oa_w11 ?ob_w11; (case oa_w11 => with_reducible assumption); (case ob_w11 => k_mem)) | (refine' ne_off3D ?oa_w11 ?ob_w11; (case oa_w11 => with_reducible assumption); (case ob_w11 => k_mem)) | (refine' ne_off3I' ?oa_w11 ?ob_w11; (case oa_w11 => with_reducible assumption); (case ob_w11 => k_mem)) | (refine' ne_off3C' ?oa_w11 ?ob_w11; (case oa_w11 => with_reducible assumption); (case ob_w11 => k_mem)) | (refine' ne_off3D' ?oa_w11 ?ob_w11; (case oa_w11 => with_reducible assumption); (case ob_w11 => k_mem)) | omega)
  k_with "k_all" => ((repeat' (first | (refine' ne_id ?oa_w12; (case oa_w12 => with_reducible assumption)) | (with_reducible refine' ne_cons ?_ ?_) | (with_reducible refine' List.forall_mem_cons.mpr ⟨?_, ?_⟩) | exact List.forall_mem_nil _ | (refine' ne_id ?oa_w12; (case oa_w12 => with_reducible assumption)) | (refine' tail_lt ?oa_w12 ?ob_w12; (case oa_w12 => with_reducible assumption); (case ob_w12 => kcj_all)) | (refine' tail_off1 ?oa_w12 ?ob_w12; (case oa_w12 => with_reducible assumption); (case ob_w12 => kcj_all)) | (refine' tail_off3I ?oa_w12 ?ob_w12; (case oa_w12 => with_reducible assumption); (case ob_w12 => kcj_all)) | (refine' tail_off3C ?oa_w12 ?ob_w12; (case oa_w12 => with_reducible assumption); (case ob_w12 => kcj_all)) | (refine' tail_off3D ?oa_w12 ?ob_w12; (case oa_w12 => with_reducible assumption); (case ob_w12 => kcj_all)) | (refine' ne_of_allLt_le ?oa_w12 ?ob_w12; (case oa_w12 => with_reducible assumption); (case ob_w12 => omega)) | k_ne)); done)
  k_with "k_upd" => ((repeat' (first | (with_reducible refine' Del.head ?_) | (with_reducible refine' Del.tail ?_ ?_) | (with_reducible refine' Upd.head ?_) | (with_reducible refine' Upd.tail ?_ ?_) | (with_reducible refine' UpdF.head ?_) | (with_reducible refine' UpdF.tail ?_ ?_) | (with_reducible refine' Del.appA (by with_reducible assumption) ?_) | (with_reducible refine' Upd.app (by with_reducible assumption) ?_) | k_all | k_ne)); done)
  k_with "kcj_all" => ((repeat' (first | (with_reducible exact mem_same) | exact List.forall_mem_nil _ | (with_reducible refine' sub_cons ?_ ?_) | (with_reducible refine' List.forall_mem_cons.mpr ⟨?_, ?_⟩) | (with_reducible exact mem_appl) | (with_reducible refine' mem_step ?_) | (with_reducible refine' mem_apps ?_ ?_) | (with_reducible refine' mem_app ?_) | k_mem)); done)
  k_with "exec For Name Name cons nil" => (k_here; (rename Fr _ _ _ _ => lF'_w21); (with_unfolding_all refine' For_invVF lF'_w21 ?k1_w21 ?k2_w21 ?_; (case k1_w21 => exact rfl); (case k2_w21 => exact rfl); k_whole); l_hasStore)
  k_with "pyIter ref" => ((with_reducible show wpAny _ _ (pyIter (Value.ref _)) (fun it s₂ => LoopAtV _ _ _ _ _ _ _ _ _ it s₂) _ _); (rename Fr _ _ _ _ => lF'_w22); (rename News _ _ _ _ => lN'_w22); (with_unfolding_all refine' iter_listUnr ?hh_w22 lF'_w22 lN'_w22 ?hm_w22 ?hc_w22 ?hd_w22 ?_; (case hh_w22 => exact rfl); (case hm_w22 => k_mem); (case hc_w22 => exact rfl); (case hd_w22 => exact rfl)); clear lF'_w22 lN'_w22; intro i'_w22 l1_w22; (have l1'_w22 := allLt_of l1_w22); clear l1_w22)
  k_with "UnrEnd" => (k_here; k_dflt (refine' unr_end ?F_w23 ?N_w23 ?D_w23 ?_; (case F_w23 => k_asm); (case N_w23 => k_asm); (case D_w23 => k_upd)); (try (refine ⟨by k_mem, ?_⟩)))
  k_with "FinE" => ((unfold LCg.FinE); intro D'_w38 h'_w38 tk'_w38 F'_w38 N'_w38 o1'_w38; (try simp only [List.nil_append, List.cons_append] at N'_w38); (try dsimp only))
  k_with "FinA" => ((unfold LCg.FinA); intro D'_w39 h'_w39 tk'_w39 F'_w39 N'_w39 o1'_w39; (try simp only [List.nil_append, List.cons_append] at N'_w39); (try dsimp only))
  k_with "UnrEnd" => (k_here; k_dflt (refine' unr_keep (o := tup2 _ _ _ _ _) ?F_w40 ?N_w40 ?hs_w40 ?K_w40 ?h1_w40 ?off_w40 ?_; (case F_w40 => k_asm); (case N_w40 => k_asm); (case hs_w40 => ((repeat' (first | (with_reducible exact mem_same) | (with_reducible exact mem_appl) | (with_reducible refine' mem_step ?_) | (with_reducible refine' mem_apps ?_ ?_) | (with_reducible refine' mem_app ?_))); done)); (case K_w40 => k_mem); (case h1_w40 => k_ne); (case off_w40 => k_all)); (try (refine ⟨by k_mem, ?_⟩)))
  k_with "call ref" => (k_here; (with_reducible show wpAny _ _ (call (Value.ref 74) _) _ _ _); k_dflt (refine' sum_use ?k1_w15 ?k2_w15 ?k3_w15 ?k4_w15 ?k5_w15 ?kK_w15 ?kd_w15 ?ku_w15 ?g_w15 ?hx_w15 ?hy_w15 ?i1_w15 ?i2_w15 ?i3_w15 ?i4_w15 ?hp_w15 ?hq_w15 ?hs_w15 ?_; (case k1_w15 => k_asm); (case k2_w15 => k_asm); (case k3_w15 => k_asm); (case k4_w15 => k_asm); (case k5_w15 => k_asm); (case kK_w15 => first | exact rfl | assumption); (case kd_w15 => ktr_room); (case ku_w15 => ktr_units); (case g_w15 => assumption); (case hx_w15 => k_mem); (case hy_w15 => k_mem); (case i1_w15 => first | exact rfl | exact num0 | exact num1); (case i2_w15 => first | exact rfl | exact den0 | exact den1); (case i3_w15 => first | exact rfl | exact num0 | exact num1); (case i4_w15 => first | exact rfl | exact den0 | exact den1); (case hp_w15 => first | (with_reducible assumption) | exact Sz.zero | exact Sz.one); (case hq_w15 => first | (with_reducible assumption) | exact Sz.zero | exact Sz.one); (case hs_w15 => omega); k_whole); intro D'_w15 u1'_w15 u2'_w15 c'_w15 h'_w15 tk'_w15 F'_w15 N'_w15 l1'_w15 sz'_w15; (try dsimp only); (try k_fold))
  k_with "call ref" => (k_here; (with_reducible show wpAny _ _ (call (Value.ref 81) _) _ _ _); k_dflt (refine' diff_use ?k1_w16 ?k2_w16 ?k3_w16 ?k4_w16 ?k5_w16 ?kK_w16 ?kd_w16 ?ku_w16 ?g_w16 ?hx_w16 ?hy_w16 ?i1_w16 ?i2_w16 ?i3_w16 ?i4_w16 ?hp_w16 ?hq_w16 ?hs_w16 ?_; (case k1_w16 => k_asm); (case k2_w16 => k_asm); (case k3_w16 => k_asm); (case k4_w16 => k_asm); (case k5_w16 => k_asm); (case kK_w16 => first | exact rfl | assumption); (case kd_w16 => ktr_room); (case ku_w16 => ktr_units); (case g_w16 => assumption); (case hx_w16 => k_mem); (case hy_w16 => k_mem); (case i1_w16 => first | exact rfl | exact num0 | exact num1); (case i2_w16 => first | exact rfl | exact den0 | exact den1); (case i3_w16 => first | exact rfl | exact num0 | exact num1); (case i4_w16 => first | exact rfl | exact den0 | exact den1); (case hp_w16 => first | (with_reducible assumption) | exact Sz.zero | exact Sz.one); (case hq_w16 => first | (with_reducible assumption) | exact Sz.zero | exact Sz.one); (case hs_w16 => omega); k_whole); intro D'_w16 u1'_w16 u2'_w16 c'_w16 h'_w16 tk'_w16 F'_w16 N'_w16 l1'_w16 sz'_w16; (try dsimp only); (try k_fold))
  k_with "call ref" => (k_here; (with_reducible show wpAny _ _ (call (Value.ref 88) _) _ _ _); k_dflt (refine' prod_use ?k1_w17 ?k2_w17 ?k3_w17 ?k4_w17 ?k5_w17 ?kK_w17 ?kd_w17 ?ku_w17 ?g_w17 ?hx_w17 ?hy_w17 ?i1_w17 ?i2_w17 ?i3_w17 ?i4_w17 ?hp_w17 ?hq_w17 ?hs_w17 ?_; (case k1_w17 => k_asm); (case k2_w17 => k_asm); (case k3_w17 => k_asm); (case k4_w17 => k_asm); (case k5_w17 => k_asm); (case kK_w17 => first | exact rfl | assumption); (case kd_w17 => ktr_room); (case ku_w17 => ktr_units); (case g_w17 => assumption); (case hx_w17 => k_mem); (case hy_w17 => k_mem); (case i1_w17 => first | exact rfl | exact num0 | exact num1); (case i2_w17 => first | exact rfl | exact den0 | exact den1); (case i3_w17 => first | exact rfl | exact num0 | exact num1); (case i4_w17 => first | exact rfl | exact den0 | exact den1); (case hp_w17 => first | (with_reducible assumption) | exact Sz.zero | exact Sz.one); (case hq_w17 => first | (with_reducible assumption) | exact Sz.zero | exact Sz.one); (case hs_w17 => omega); k_whole); intro D'_w17 u1'_w17 u2'_w17 c'_w17 h'_w17 tk'_w17 F'_w17 N'_w17 l1'_w17 sz'_w17; (try dsimp only); (try k_fold))
  k_with "call ref" => (k_here; (with_reducible show wpAny _ _ (call (Value.ref 95) _) _ _ _); k_dflt (refine' quot_use ?k1_w18 ?k2_w18 ?k3_w18 ?k4_w18 ?k5_w18 ?kK_w18 ?kd_w18 ?ku_w18 ?g_w18 ?hx_w18 ?hy_w18 ?i1_w18 ?i2_w18 ?i3_w18 ?i4_w18 ?hp_w18 ?hq_w18 ?hs_w18 ?hn_w18 ?_; (case k1_w18 => k_asm); (case k2_w18 => k_asm); (case k3_w18 => k_asm); (case k4_w18 => k_asm); (case k5_w18 => k_asm); (case kK_w18 => first | exact rfl | assumption); (case kd_w18 => ktr_room); (case ku_w18 => ktr_units); (case g_w18 => assumption); (case hx_w18 => k_mem); (case hy_w18 => k_mem); (case i1_w18 => first | exact rfl | exact num0 | exact num1); (case i2_w18 => first | exact rfl | exact den0 | exact den1); (case i3_w18 => first | exact rfl | exact num0 | exact num1); (case i4_w18 => first | exact rfl | exact den0 | exact den1); (case hp_w18 => first | (with_reducible assumption) | exact Sz.zero | exact Sz.one); (case hq_w18 => first | (with_reducible assumption) | exact Sz.zero | exact Sz.one); (case hs_w18 => omega); (case hn_w18 => assumption); k_whole); intro D'_w18 u1'_w18 u2'_w18 c'_w18 h'_w18 tk'_w18 F'_w18 N'_w18 l1'_w18 sz'_w18; (try dsimp only); (try k_fold))
  k_with "call ref" => (k_here; (with_reducible show wpAny _ _ (call (Value.ref 102) _) _ _ _); k_dflt (refine' neg_use ?k1_w19 ?k2_w19 ?k3_w19 ?k4_w19 ?k5_w19 ?kK_w19 ?kd_w19 ?ku_w19 ?hx_w19 ?i1_w19 ?i2_w19 ?hp_w19 ?_; (case k1_w19 => k_asm); (case k2_w19 => k_asm); (case k3_w19 => k_asm); (case k4_w19 => k_asm); (case k5_w19 => k_asm); (case kK_w19 => first | exact rfl | assumption); (case kd_w19 => ktr_room); (case ku_w19 => ktr_units); (case hx_w19 => k_mem); (case i1_w19 => first | exact rfl | exact num0 | exact num1); (case i2_w19 => first | exact rfl | exact den0 | exact den1); (case hp_w19 => first | (with_reducible assumption) | exact Sz.zero | exact Sz.one); k_whole); intro D'_w19 u1'_w19 u2'_w19 c'_w19 h'_w19 tk'_w19 F'_w19 N'_w19 l1'_w19 sz'_w19; (try dsimp only); (try k_fold))
  k_with "call ref" => (k_here; (with_reducible show wpAny _ _ (call (Value.ref 116) _) _ _ _); k_dflt (refine' order_use ?k1_w20 ?k2_w20 ?k3_w20 ?k4_w20 ?k5_w20 ?kK_w20 ?kd_w20 ?ku_w20 ?hx_w20 ?hy_w20 ?i1_w20 ?i2_w20 ?i3_w20 ?i4_w20 ?hp_w20 ?hq_w20 ?hs_w20 ?_; (case k1_w20 => k_asm); (case k2_w20 => k_asm); (case k3_w20 => k_asm); (case k4_w20 => k_asm); (case k5_w20 => k_asm); (case kK_w20 => first | exact rfl | assumption); (case kd_w20 => ktr_room); (case ku_w20 => ktr_units); (case hx_w20 => k_mem); (case hy_w20 => k_mem); (case i1_w20 => first | exact rfl | exact num0 | exact num1); (case i2_w20 => first | exact rfl | exact den0 | exact den1); (case i3_w20 => first | exact rfl | exact num0 | exact num1); (case i4_w20 => first | exact rfl | exact den0 | exact den1); (case hp_w20 => first | (with_reducible assumption) | exact Sz.zero | exact Sz.one); (case hq_w20 => first | (with_reducible assumption) | exact Sz.zero | exact Sz.one); (case hs_w20 => omega); k_whole); intro u'_w20 h'_w20 tk'_w20 F'_w20 N'_w20; (try dsimp only); (try k_fold))
  k_with "subscriptTail" => (k_here; (with_reducible show wpAny _ _ (subscriptTail _ _ (Value.ref _) (Value.int _ _)) _ _ _); k_dflt (refine' item_led ?N_w66 ?m_w66 ?a_w66 ?b_w66 ?x_w66 ?_; (case N_w66 => k_asm); (case m_w66 => k_mem); (case a_w66 => first | (with_reducible assumption) | decide); (case b_w66 => first | (with_reducible assumption) | decide); (case x_w66 => first | (with_reducible assumption) | exact rfl); k_whole))
  k_with "subscriptTail Name" => (k_here; (with_reducible show wpAny _ _ (subscriptTail _ _ (Value.ref _) (Value.int _ _)) _ _ _); k_dflt (refine' item_led ?N_w67 ?m_w67 ?a_w67 ?b_w67 ?x_w67 ?_; (case N_w67 => k_asm); (case m_w67 => k_mem); (case a_w67 => first | (with_reducible assumption) | decide); (case b_w67 => first | (with_reducible assumption) | decide); (case x_w67 => first | (with_reducible assumption) | exact rfl); k_whole))
  k_with "subscriptTail Name Constant ref int" => (k_here; (with_reducible show wpAny _ _ (subscriptTail _ _ (Value.ref _) (Value.int _ _)) _ _ _); k_dflt (refine' item_led ?N_w68 ?m_w68 ?a_w68 ?b_w68 ?x_w68 ?_; (case N_w68 => k_asm); (case m_w68 => k_mem); (case a_w68 => first | (with_reducible assumption) | decide); (case b_w68 => first | (with_reducible assumption) | decide); (case x_w68 => first | (with_reducible assumption) | exact rfl); k_whole))
  k_with "subscriptTail Name Name ref int" => (k_here; (with_reducible show wpAny _ _ (subscriptTail _ _ (Value.ref _) (Value.int _ _)) _ _ _); k_dflt (refine' item_led ?N_w69 ?m_w69 ?a_w69 ?b_w69 ?x_w69 ?_; (case N_w69 => k_asm); (case m_w69 => k_mem); (case a_w69 => first | (with_reducible assumption) | decide); (case b_w69 => first | (with_reducible assumption) | decide); (case x_w69 => first | (with_reducible assumption) | exact rfl); k_whole))
  k_with "subscriptTail Subscript Name Constant Name ref int" => (k_here; (with_reducible show wpAny _ _ (subscriptTail _ _ (Value.ref _) (Value.int _ _)) _ _ _); k_dflt (refine' item_led ?N_w70 ?m_w70 ?a_w70 ?b_w70 ?x_w70 ?_; (case N_w70 => k_asm); (case m_w70 => k_mem); (case a_w70 => first | (with_reducible assumption) | decide); (case b_w70 => first | (with_reducible assumption) | decide); (case x_w70 => first | (with_reducible assumption) | exact rfl); k_whole))
  k_with "subscriptTail Subscript Name Constant Constant ref int" => (k_here; (with_reducible show wpAny _ _ (subscriptTail _ _ (Value.ref _) (Value.int _ _)) _ _ _); k_dflt (refine' item_led ?N_w71 ?m_w71 ?a_w71 ?b_w71 ?x_w71 ?_; (case N_w71 => k_asm); (case m_w71 => k_mem); (case a_w71 => first | (with_reducible assumption) | decide); (case b_w71 => first | (with_reducible assumption) | decide); (case x_w71 => first | (with_reducible assumption) | exact rfl); k_whole))
  k_with "subscriptTail Subscript Name Name Name ref int" => (k_here; (with_reducible show wpAny _ _ (subscriptTail _ _ (Value.ref _) (Value.int _ _)) _ _ _); k_dflt (refine' item_led ?N_w72 ?m_w72 ?a_w72 ?b_w72 ?x_w72 ?_; (case N_w72 => k_asm); (case m_w72 => k_mem); (case a_w72 => first | (with_reducible assumption) | decide); (case b_w72 => first | (with_reducible assumption) | decide); (case x_w72 => first | (with_reducible assumption) | exact rfl); k_whole))
  k_with "subscriptTail Subscript Name Name Constant ref int" => (k_here; (with_reducible show wpAny _ _ (subscriptTail _ _ (Value.ref _) (Value.int _ _)) _ _ _); k_dflt (refine' item_led ?N_w73 ?m_w73 ?a_w73 ?b_w73 ?x_w73 ?_; (case N_w73 => k_asm); (case m_w73 => k_mem); (case a_w73 => first | (with_reducible assumption) | decide); (case b_w73 => first | (with_reducible assumption) | decide); (case x_w73 => first | (with_reducible assumption) | exact rfl); k_whole))
  k_with "getItem ref int" => (k_here; (with_reducible show wpAny _ _ (getItem (Value.ref _) (Value.int _ _)) _ _ _); k_dflt (refine' getItem_led ?N_w74 ?m_w74 ?a_w74 ?b_w74 ?x_w74 ?_; (case N_w74 => k_asm); (case m_w74 => k_mem); (case a_w74 => first | (with_reducible assumption) | decide); (case b_w74 => first | (with_reducible assumption) | decide); (case x_w74 => first | (with_reducible assumption) | exact rfl); k_whole))
  k_with "callWith builtin:list.append cons nil" => refine callWith_method1 ?_
  k_with "callWith builtin:len nil nil" => refine callWith_builtin1 ?_
  k_with "callWith builtin:len cons nil" => refine callWith_builtin1 ?_
  k_with "exec Assign cons ListComp" => (k_here; k_dflt (refine LCg.Assign_ListComp_U (F₀ := by k_asm) (by rfl) (by with_unfolding_all rfl) (by with_unfolding_all rfl) (by decide) (by rfl) (by decide) (by rfl) (by rfl) (by rfl) ?_))
  k_with "call builtin:list.append cons nil" => (k_here; k_dflt (refine' append_K ?k1_w46 ?k2_w46 ?k3_w46 ?_ ?z_w46; (case k1_w46 => k_asm); (case k2_w46 => k_asm); (case k3_w46 => k_upd); (case z_w46 => size_fits); k_whole); intro h'_w46 F'_w46 N'_w46; (try k_sweep))
  k_with "eval Name" => (k_here; (with_reducible show wpAny _ _ (eval (PySem.Expr.Name _ _) (envOfC _ _ _ _ _)) _ _ _); k_dflt (first | (refine' nameX_L ?F_w47 ?v_w47 ?_ ?a_w47 ?b_w47; (case a_w47 => rfl); (case b_w47 => rfl); (case F_w47 => k_asm); (case v_w47 => rfl); k_whole) | (refine' nameX_C ?N_w47 ?c_w47 ?m_w47 ?d_w47 ?_ ?a_w47 ?b_w47; (case a_w47 => rfl); (case b_w47 => rfl); (case N_w47 => k_asm); (case c_w47 => rfl); (case m_w47 => k_mem); (case d_w47 => with_reducible assumption); k_whole) | (refine' nameX_K ?F_w47 ?X_w47 ?T_w47 ?e_w47 ?_ ?a_w47 ?b_w47; (case a_w47 => rfl); (case b_w47 => rfl); (case F_w47 => k_asm); (case X_w47 => k_asm); (case T_w47 => k_asm); (case e_w47 => k_is); k_whole)))
  k_with "eval Name" => (k_here; (with_reducible show wpAny _ _ (eval (PySem.Expr.Name _ _) (envOfC _ _ _ _ _)) _ _ _); k_dflt (first | (refine' nameX_L ?F_w75 ?v_w75 ?_ ?a_w75 ?b_w75; (case a_w75 => rfl); (case b_w75 => rfl); (case F_w75 => k_asm); (case v_w75 => first | rfl | assumption); k_whole) | (refine' nameX_C ?N_w75 ?c_w75 ?m_w75 ?d_w75 ?_ ?a_w75 ?b_w75; (case a_w75 => rfl); (case b_w75 => rfl); (case N_w75 => k_asm); (case c_w75 => rfl); (case m_w75 => k_mem); (case d_w75 => with_reducible assumption); k_whole) | (refine' nameX_K ?F_w75 ?X_w75 ?T_w75 ?e_w75 ?_ ?a_w75 ?b_w75; (case a_w75 => rfl); (case b_w75 => rfl); (case F_w75 => k_asm); (case X_w75 => k_asm); (case T_w75 => k_asm); (case e_w75 => k_is); k_whole)))
  k_with "call builtin:len" => (k_here; (with_reducible show wpAny _ _ (call (Value.builtin "len") [Value.ref _]) _ _ _); k_dflt (refine' len_led ?k1_w76 ?k2_w76 ?k3_w76 ?k4_w76 ?_; (case k1_w76 => k_asm); (case k2_w76 => k_mem); (case k3_w76 => first | (with_reducible assumption) | (refine' len_set ?z_w76; (case z_w76 => with_reducible assumption))); (case k4_w76 => omega); k_whole); (try dsimp only))
  k_with "compareOp Eq ref ref" => (k_here; (with_reducible show wpAny _ _ (compareOp CmpOp.Eq (Value.ref _) (Value.ref _)) _ _ _); k_dflt (refine' eq_rats ?N_w77 ?ha_w77 ?hb_w77 ?i1_w77 ?i2_w77 ?i3_w77 ?i4_w77 ?hu_w77 ?_; (case N_w77 => k_asm); (case ha_w77 => k_mem); (case hb_w77 => k_mem); (case i1_w77 => first | exact rfl | exact num0 | exact num1); (case i2_w77 => first | exact rfl | exact den0 | exact den1); (case i3_w77 => first | exact rfl | exact num0 | exact num1); (case i4_w77 => first | exact rfl | exact den0 | exact den1); (case hu_w77 => first | ktr_units | units_room | omega); k_whole))
  k_with "compareOp NotEq ref ref" => (k_here; (with_reducible show wpAny _ _ (compareOp CmpOp.NotEq (Value.ref _) (Value.ref _)) _ _ _); k_dflt (refine' ne_rats ?N_w78 ?ha_w78 ?hb_w78 ?i1_w78 ?i2_w78 ?i3_w78 ?i4_w78 ?hu_w78 ?_; (case N_w78 => k_asm); (case ha_w78 => k_mem); (case hb_w78 => k_mem); (case i1_w78 => first | exact rfl | exact num0 | exact num1); (case i2_w78 => first | exact rfl | exact den0 | exact den1); (case i3_w78 => first | exact rfl | exact num0 | exact num1); (case i4_w78 => first | exact rfl | exact den0 | exact den1); (case hu_w78 => first | ktr_units | units_room | omega); k_whole))
  k_with "setItem ref int ref" => (k_here; k_dflt (refine' set_any ?k1_w79 ?k2_w79 ?k3_w79 ?k4_w79 ?k5_w79 ?k6_w79 ?_; (case k1_w79 => k_asm); (case k2_w79 => k_asm); (case k6_w79 => k_upd); (case k3_w79 => with_reducible assumption); (case k4_w79 => with_reducible assumption); (case k5_w79 => (try simp only [List.length_set]); omega); k_whole); intro h'_w79 F'_w79 N'_w79; (try k_sweep))
  k_with "exec Assign cons ListComp" => (k_here; k_dflt (first | (refine LCg.Assign_ListComp_U (F₀ := by k_asm) (by rfl) (by with_unfolding_all rfl) (by with_unfolding_all rfl) (by decide) (by rfl) (by decide) (by rfl) (by rfl) (by rfl) ?_) | ((with_reducible refine wpAny_Assign_Name ?_ ?_); rotate_left; (with_unfolding_all rfl))))
  k_with "call ref" => (k_here; (with_reducible show wpAny _ _ (call (Value.ref 155) _) _ _ _); k_dflt (refine' size_use ?k1_w80 ?k2_w80 ?k3_w80 ?k4_w80 ?k5_w80 ?kK_w80 ?kd_w80 ?ku_w80 ?hx_w80 ?hp_w80 ?hs_w80 ?_; (case k1_w80 => k_asm); (case k2_w80 => k_asm); (case k3_w80 => k_asm); (case k4_w80 => k_asm); (case k5_w80 => k_asm); (case kK_w80 => first | exact rfl | assumption); (case kd_w80 => ktr_room); (case ku_w80 => ktr_units); (case hx_w80 => k_mem); (case hp_w80 => with_reducible assumption); (case hs_w80 => omega); k_whole); intro D'_w80 u1'_w80 u2'_w80 c'_w80 h'_w80 tk'_w80 F'_w80 N'_w80 sz'_w80; (try dsimp only); (try k_fold))
  k_with "kcj_all" => ((repeat' (first | (with_reducible assumption) | (with_reducible exact mem_same) | exact List.forall_mem_nil _ | (with_reducible refine' sub_cons ?_ ?_) | (with_reducible refine' List.forall_mem_cons.mpr ⟨?_, ?_⟩) | (with_reducible exact mem_appl) | (with_reducible refine' mem_step ?_) | (with_reducible refine' mem_apps ?_ ?_) | (with_reducible refine' mem_app ?_) | k_mem)); done)
  k_with "exec Assign cons ListComp" => (with_reducible refine wpAny_Assign_Subscript ?_ ?_; rotate_left; with_unfolding_all rfl)
  k_with "exec For Name Call cons nil" => (k_here; k_dflt (refine For_C ?_))
  k_with "pyIter ref" => ((with_reducible show wpAny _ _ (pyIter (Value.ref _)) (LoopC _ _ _ _ _ _ _ _ _) _ _); (refine Stop.out ?_))
  k_with "UnrEnd" => (refine Stop.out ?_)
  k_with "call type:list" => (k_here; (with_reducible show wpAny _ _ (call (Value.type _) [Value.ref _]) _ _ _); k_dflt (refine' list_led ?F_g1 ?N_g1 ?b_g1 ?e_g1 ?z_g1 ?_; (case F_g1 => k_asm); (case N_g1 => k_asm); (case b_g1 => k_mem); (case e_g1 => with_reducible assumption); (case z_g1 => omega)); intro D_g1 c_g1 h_g1 F_g1 N_g1 l1_g1; (replace l1_g1 := allLt_of l1_g1); (try k_sweep))
  k_with "CompSrc" => (refine Stop.out ?_)
  k_with "k_upd" => ((repeat' (first | (with_reducible refine' Del.head ?_) | (with_reducible refine' Del.tail ?_ ?_) | (with_reducible refine' Upd.head ?_) | (with_reducible refine' Upd.tail ?_ ?_) | (with_reducible refine' UpdF.head ?_) | (with_reducible refine' UpdF.tail ?_ ?_) | (with_reducible refine' Del.appN (by with_reducible assumption) ?_) | (with_reducible refine' Upd.appN (by with_reducible assumption) ?_) | k_all | k_ne)); done)
  k_with "subscriptTail Name Slice ref ref" => (k_here; (with_reducible show wpAny _ _ (subscriptTail _ (PySem.Expr.Slice _ _ none _) (Value.ref _) (Value.ref _)) _ _ _); k_dflt (refine' slice_led ?F_g4 ?N_g4 ?m_g4 ?p_g4 ?q_g4 ?e_g4 ?z_g4 ?_ ?s_g4 ?t_g4; (case F_g4 => k_asm); (case N_g4 => k_asm); (case m_g4 => k_mem); (case p_g4 => kmk_part); (case q_g4 => kmk_part); (case e_g4 => first | exact pick_from1 (by omega) | exact pick_from (by omega) | exact pick_upto (by omega)); (case z_g4 => omega); (case s_g4 => with_unfolding_all rfl); (case t_g4 => kmk_pure)); intro D_g4 h_g4 F_g4 N_g4 l_g4; (try k_sweep))
  k_with "subscriptTail Subscript Name Name Slice ref ref" => (k_here; (with_reducible show wpAny _ _ (subscriptTail _ (PySem.Expr.Slice _ _ none _) (Value.ref _) (Value.ref _)) _ _ _); k_dflt (refine' slice_led ?F_g4 ?N_g4 ?m_g4 ?p_g4 ?q_g4 ?e_g4 ?z_g4 ?_ ?s_g4 ?t_g4; (case F_g4 => k_asm); (case N_g4 => k_asm); (case m_g4 => k_mem); (case p_g4 => kmk_part); (case q_g4 => kmk_part); (case e_g4 => first | exact pick_from1 (by omega) | exact pick_from (by omega) | exact pick_upto (by omega)); (case z_g4 => omega); (case s_g4 => with_unfolding_all rfl); (case t_g4 => kmk_pure)); intro D_g4 h_g4 F_g4 N_g4 l_g4; (try k_sweep))
  k_with "binaryOp Add ref ref" => (k_here; (with_reducible show wpAny _ _ (binaryOp _ (Value.ref _) (Value.ref _)) _ _ _); k_dflt (refine' add_led ?F_g5 ?N_g5 ?m_g5 ?n_g5 ?z_g5 ?_; (case F_g5 => k_asm); (case N_g5 => k_asm); (case m_g5 => k_mem); (case n_g5 => k_mem); (case z_g5 => (simp only [List.length_take, List.length_drop, List.length_append, List.length_cons, List.length_nil]; omega))); intro D_g5 h_g5 F_g5 N_g5 l_g5; (try k_sweep))
  k_with "call builtin:list.append cons nil" => (k_here; k_dflt (refine' append_led ?k1_g6 ?k2_g6 ?k3_g6 ?z_g6 ?_; (case k1_g6 => k_asm); (case k2_g6 => k_asm); (case k3_g6 => k_upd); (case z_g6 => omega); k_whole); intro h_g6 F_g6 N_g6; (try k_sweep))
  k_with "call ref" => ((with_reducible show wpAny _ _ (call (Value.ref 148) _) _ _ _); (refine Stop.out ?_))
  k_with "call ref" => ((with_reducible show wpAny _ _ (call (Value.ref 143) _) _ _ _); (refine Stop.out ?_))
  k_with "call builtin:len" => (k_here; (with_reducible show wpAny _ _ (call (Value.builtin "len") [Value.ref _]) _ _ _); k_dflt (refine' len_led ?k1_g7 ?k2_g7 ?k3_g7 ?k4_g7 ?_; (case k1_g7 => k_asm); (case k2_g7 => k_mem); (case k3_g7 => with_reducible assumption); (case k4_g7 => omega); k_whole); (try dsimp only))
  k_with "eval ListComp" => (k_here; k_dflt (first | (refine LCg.ListComp_U (F₀ := by k_asm) (by with_unfolding_all rfl) (by decide) (by rfl) (by decide) (by rfl) ?_) | (refine ListComp_C (F₀ := by k_asm) (by with_unfolding_all rfl) (by rfl) (by decide) (by intro _ _; rfl) (by intro _; rfl) (by intro _ _; rfl) ?_)))
  k_with "exec Assign cons ListComp" => (k_here; k_dflt (first | (refine LCg.Assign_ListComp_U (F₀ := by k_asm) (by rfl) (by with_unfolding_all rfl) (by with_unfolding_all rfl) (by decide) (by rfl) (by decide) (by rfl) (by rfl) (by rfl) ?_) | ((with_reducible refine wpAny_Assign_Name ?_ ?_); rotate_left; (with_unfolding_all rfl))))
  k_with "SrcC" => (refine Stop.out ?_)
  trivial
theorem timesN_does (w : World) (mean : ExcName → Option Value) (mg mb : Str → Option Value) (G : Great mg) (n : Nat) (hn1 : 1 ≤ n) (hn : n ≤ 3) (e : Nat) (hs : szS (e + e) n ≤ 2300)
    (news : List (Addr × Obj)) (lx ly : Addr) (P Q9 : Nat → Nat → Rat) (M1 : MatAt n n news lx P e) (M2 : MatAt n n news ly Q9 e) :
    Does w mean mg mb 5 165 news [.ref lx, .ref ly] (MatOut n n (mulN n P Q9) (szS (e + e) n) news) := by
  intro dp un gd cn cs a ccd cl outer A₀ base h₀ L m s Q E B F X N T hk hd hu hret
  obtain ⟨vs, c, hl, hvl, hrows⟩ := M1
  obtain ⟨ws, c2, hl2, hwl, hrows2⟩ := M2
  obtain ⟨r0, hr0, as0, c0, ha0, hlen0, hall0⟩ := hrows2 0 (by omega)
  have psz : ∀ {i j}, i < n → j < n → Sz e (P i j) := fun hi hj => by
    obtain ⟨_, _, _, _, _, _, hall⟩ := hrows _ hi
    obtain ⟨_, _, _, _, _, _, h⟩ := hall _ hj
    exact h
  have qsz : ∀ {i j}, i < n → j < n → Sz e (Q9 i j) := fun hi hj => by
    obtain ⟨_, _, _, _, _, _, hall⟩ := hrows2 _ hi
    obtain ⟨_, _, _, _, _, _, h⟩ := hall _ hj
    exact h
  have hr00 : ws[(0 : Int).toNat]? = some (.ref r0) := hr0
  refine wpAny_call ?_
  k_dflt (refine' code_defC (binds := [(PySem.Str.ofString "one", .ref lx), (PySem.Str.ofString "other", .ref ly)]) ?k1 ?k2 ?k3 ?k4 ?k5 ?kA ?kF ?kK ?k6 ?k7 ?k8 ?k9 ?kB ?kD ?_ ?c2 ?c3 ?c4; (case kA => exact rfl); (case kF => exact rfl); (case kK => assumption); (case k1 => k_asm); (case k2 => k_asm); (case k3 => k_asm); (case k4 => k_asm); (case k5 => k_asm); (case k6 => k_is); (case k7 => k_is); (case k8 => ktr_room); (case k9 => exact BindsTo.of_eq rfl); (case kB => exact rfl); (case kD => decide +kernel); (case c2 => exact rfl); (case c3 => exact rfl); (case c4 => exact rfl); k_whole)
  intro g' L' h' tk' cells' FG' F' N' Y' B' X' T' l1
  have l2 := allLt_of l1
  have l3 : AllLt (L' + 1) _ := AllLt.mono l2 (Nat.le_succ _)
  have l4 : AllLt (L' + 1 + 1) _ := AllLt.mono l3 (Nat.le_succ _)
  k_cells Y'
  (try simp only [List.cons_append, List.nil_append] at N')
  (try dsimp only)
  (try k_fold)
  k_steps
  refine Stop.mk ?_
  refine comp_rangeC (KRowB n (fun at_ i => Q9 i at_) e news) KRowB.mono (by rfl) (by k_asm) (by k_asm) (by with_reducible assumption) (by omega) ?s1 ?f1
  case s1 =>
    intro i1 ys1 tl1 hi1 it1 ap1 t1 I1 oI1 C1 oC1 D1 X1 oX1 h1 tk1 E1 dX1 F1 N1 off1 offX1 ne1
    k_steps
    refine Stop.mk ?_
    refine comp_list (KRatB (fun i => Q9 i i1) e news) KRatB.mono (by rfl) (by k_asm) (by k_asm) (by k_mem) hwl (by omega) ?s2 ?f2
    case s2 =>
      intro i2 ys2 tl2 hi2 it2 ap2 v2 I2 oI2 C2 oC2 D2 m2 h2 tk2 E2 hv2 hC2 hx2 F2 N2 off2 ne2
      obtain ⟨r, hr, as, c3, ha, hlen, hall⟩ := hrows2 i2 hi2
      obtain rfl : v2 = .ref r := Option.some.inj (hv2.symm.trans hr)
      obtain ⟨x, xs, xu, xk, hx, hm, hz⟩ := hall i1 hi1
      replace hx : as[((i1 : Nat) : Int).toNat]? = some (.ref x) := hx
      have h0c : (0 : Int) ≤ (i1 : Int) := by omega
      have h63 : (i1 : Int) < 2 ^ 63 := by omega
      k_steps
      (iterate 6 (try ((try show (_ : Value → Shared → Prop) _ _); k_unfold; (try dsimp only))))
      exact ItemEnd.zero (by k_asm) (by k_asm) (by kcj_all) ⟨_, _, _, _, rfl, List.mem_append_right _ hm, hz⟩
    case f2 =>
      intro g2 ys2 tl2 it2 ap2
      k_steps
      (iterate 6 (try ((try show (_ : Value → Shared → Prop) _ _); k_unfold; (try dsimp only))))
      exact ItemEnd.list (by k_asm) (by k_asm) (by assumption) ap2 ⟨_, rfl, rowB_of it2 (.head _) (fun p hp => List.mem_append_left _ (.tail _ (List.mem_append_left _ hp))) fun p hp => List.mem_append_right _ hp⟩
  case f1 =>
    intro g1 ys1 tl1 it1 ap1
    refine FinE.perm perm2 ?_
    have y1 := Away.all ap1 (a := L' + 1) (rest := news) (by k_mem) (by k_all)
    have y2 := Away.all ap1 (a := L' + 1 + 1) (rest := news) (by k_mem) (by k_all)
    k_steps
    refine Stop.mk ?_
    refine comp_listC (KRow n (mulN n P Q9) (szS (e + e) n)) KRow.mono (by rfl) (by k_asm) (by k_asm) (by k_mem) hvl (by omega) ?s3 ?f3
    case s3 =>
      intro i3 ys3 tl3 hi3 it3 ap3 v3 I3 oI3 C3 oC3 D3 X3 oX3 h3 tk3 E3 hv3 dX3 F3 N3 off3 offX3 ne3
      obtain ⟨r, hr, as, c3, ha, hlen, hall⟩ := hrows i3 hi3
      obtain rfl : v3 = .ref r := Option.some.inj (hv3.symm.trans hr)
      k_steps
      refine Stop.mk ?_
      refine comp_listC (KRat (mulN n P Q9 i3) (szS (e + e) n)) KRat.mono (by rfl) (by k_asm) (by k_asm) (by k_mem) it1.1 (by omega) ?s4 ?f4
      case s4 =>
        intro i4 ys4 tl4 hi4 it4 ap4 v4 I4 oI4 C4 oC4 D4 X4 oX4 h4 tk4 E4 hv4 dX4 F4 N4 off4 offX4 ne4
        obtain ⟨y, hy, r4, rfl, as4, c4, ha4, hlen4, hall4⟩ := it1.2 i4 hi4
        obtain rfl : Value.ref r4 = v4 := Option.some.inj (hy.symm.trans hv4)
        k_steps
        refine Stop.mk ?_
        refine comp_range (KRat (fun k => P i3 k * Q9 k i4) (e + e)) KRat.mono (by rfl) (by k_asm) (by k_asm) (by assumption) (by omega) ?s5 ?f5
        case s5 =>
          intro i5 ys5 tl5 hi5 it5 ap5 t5 I5 oI5 C5 oC5 D5 m5 h5 tk5 E5 hC5 hx5 F5 N5 off5 ne5
          obtain ⟨x, xs, xu, xk, hx, hm, hz⟩ := hall i5 hi5
          obtain ⟨z, zs, zu, zk, hz1, hzm, hzz⟩ := hall4 i5 hi5
          replace hzm : (z, tup2 (Q9 i5 i4).num zs (Q9 i5 i4).den zu zk) ∈ tl1 ++ news := hzm
          replace hzz : Sz e (Q9 i5 i4) := hzz
          replace hx : as[((i5 : Nat) : Int).toNat]? = some (.ref x) := hx
          replace hz1 : as4[((i5 : Nat) : Int).toNat]? = some (.ref z) := hz1
          replace hm : (x, tup2 (P i3 i5).num xs (P i3 i5).den xu xk) ∈ tl1 ++ news := List.mem_append_right _ hm
          replace ha : (r, listObj as c3) ∈ tl1 ++ news := List.mem_append_right _ ha
          have h0c : (0 : Int) ≤ (i5 : Int) := by omega
          have h63 : (i5 : Int) < 2 ^ 63 := by omega
          have hee : e + e + 1 ≤ 2300 := Nat.le_trans (Nat.le_trans (by show e + e + 1 ≤ szS (e + e) 0 + (e + e) + 1; omega) (szS_mono (q := e + e) hn1)) hs
          k_steps
          (iterate 6 (try ((try show (_ : Value → Shared → Prop) _ _); k_unfold; (try dsimp only))))
          exact ItemEnd.one (by k_asm) (by k_asm) (by assumption) ⟨_, _, _, _, rfl, .head _, by with_reducible assumption⟩
        case f5 =>
          intro g5 ys5 tl5 it5 ap5
          k_steps
          refine Stop.mk ?_
          refine' Does.use (total_does w mean mg mb G _ _ _ _ (fun k => P i3 k * Q9 k i4) (e + e) n ?hl ?hit ?hn hs) ?k1 ?k2 ?k3 ?k4 ?k5 ?kK ?kd ?ku ?ret
          (case k1 => k_asm)
          (case k2 => k_asm)
          (case k3 => k_asm)
          (case k4 => k_asm)
          (case k5 => k_asm)
          (case kK => first | exact rfl | assumption)
          (case kd => ktr_room)
          (case ku => ktr_units)
          (case hl => k_mem)
          (case hit => exact it5.sub KRat.mono (by kcj_all))
          (case hn => omega)
          case ret =>
          intro rq nq h9 tk9 F9 N9 hP
          obtain ⟨Dq, sq, uq, kq, rfl, rfl, lq⟩ := hP
          (iterate 6 (try ((try show (_ : Value → Shared → Prop) _ _); k_unfold; (try dsimp only))))
          exact ItemEnd.by (by k_asm) (by k_asm) (by assumption) (by kcj_all) ⟨_, _, _, _, rfl, .head _, sumTo_sz fun k hk => Sz.mul (psz hi3 hk) (qsz hk hi4)⟩
      case f4 =>
        intro g4 ys4 tl4 it4 ap4
        k_steps
        (iterate 6 (try ((try show (_ : Value → Shared → Prop) _ _); k_unfold; (try dsimp only))))
        exact ItemEnd.list (by k_asm) (by k_asm) (by assumption) ap4 ⟨_, rfl, row_of (it4.sub KRat.mono fun p hp => .tail _ (List.mem_append_left _ hp)) (.head _)⟩
    case f3 =>
      intro g3 ys3 tl3 it3 ap3
      k_steps
      exact mat_out hret (by k_asm) (by k_asm) (by assumption) ap3 (by kcj_all) it3
end Mine
end
section
open PySem PySem.W PyProof.Rows PySem.Calls PySem.Spec PyProof.V
set_option Elab.async false
set_option maxRecDepth 100000
set_option maxHeartbeats 8000000
namespace Mine
def augP (P : Nat → Nat → Rat) (b : Nat → Rat) (v i j : Nat) : Rat := if j = v then b i else P i j
def quoN (n : Nat) (P : Nat → Nat → Rat) (b : Nat → Rat) (v : Nat) : Rat := detN n (augP P b v) / detN n P
theorem aug_sz {n e v : Nat} {P : Nat → Nat → Rat} {b : Nat → Rat} (h : ∀ i j, i < n → j < n → Sz e (P i j)) (hb : ∀ i, i < n → Sz e (b i)) (i j : Nat) (hi : i < n) (hj : j < n) : Sz e (augP P b v i j) := by
  unfold augP; split
  · exact hb i hi
  · exact h i j hi hj
theorem det3_sz {e : Nat} {P : Nat → Nat → Rat} (h : ∀ i j, i < 3 → j < 3 → Sz e (P i j)) : Sz (15 * e + 5) (detN 3 P) := by
  rw [det3_eq]
  have z : ∀ i j, i < 3 → j < 3 → Sz e (P i j) := h
  have m : ∀ i j k l, i < 3 → j < 3 → k < 3 → l < 3 → Sz (2 * e) (P i j * P k l) := fun i j k l a b c d => (Sz.mul (h i j a b) (h k l c d)).mono (by omega)
  have d : ∀ i j k l i' j' k' l', i < 3 → j < 3 → k < 3 → l < 3 → i' < 3 → j' < 3 → k' < 3 → l' < 3 → Sz (4 * e + 1) (P i j * P k l + -(P i' j' * P k' l')) := fun i j k l i' j' k' l' a b c f a' b' c' f' => (Sz.add (m i j k l a b c f) (m i' j' k' l' a' b' c' f').neg).mono (by omega)
  exact (Sz.add (Sz.add (Sz.mul (h 0 0 (by decide) (by decide)) (d 1 1 2 2 1 2 2 1 (by decide) (by decide) (by decide) (by decide) (by decide) (by decide) (by decide) (by decide))) (Sz.mul (h 0 1 (by decide) (by decide)) (d 1 0 2 2 1 2 2 0 (by decide) (by decide) (by decide) (by decide) (by decide) (by decide) (by decide) (by decide))).neg) (Sz.mul (h 0 2 (by decide) (by decide)) (d 1 0 2 1 1 1 2 0 (by decide) (by decide) (by decide) (by decide) (by decide) (by decide) (by decide) (by decide)))).mono (by omega)
theorem put_len {as : List Value} {x : Value} {n v : Nat} (h : as.length = n) (hv : v < n) : (as.take v ++ [x] ++ as.drop (v + 1)).length = n := by
  rw [List.length_append, List.length_append, List.length_take, List.length_drop, List.length_singleton]; omega
theorem put_get {as : List Value} {x : Value} {n v j : Nat} (h : as.length = n) (hv : v < n) : (as.take v ++ [x] ++ as.drop (v + 1))[j]? = if j = v then some x else as[j]? := by
  have ht : (as.take v).length = v := by rw [List.length_take]; omega
  rcases Nat.lt_trichotomy j v with g | g | g
  · rw [if_neg (by omega), List.append_assoc, List.getElem?_append_left (by omega), List.getElem?_take, if_pos g]
  · subst g
    rw [if_pos rfl, List.append_assoc, List.getElem?_append_right (by omega), ht, Nat.sub_self]; rfl
  · rw [if_neg (by omega), List.getElem?_append_right (by rw [List.length_append, ht]; exact g), List.length_append, ht, List.length_singleton, List.getElem?_drop]
    congr 1
    omega
theorem put_row {n v e : Nat} {p : Nat → Rat} {q : Rat} {led : List (Addr × Obj)} {as : List Value} {c2 : Nat} {D x : Addr} {sx ux : Tok} {kx : Nat} (h : as.length = n) (hall : ∀ j, j < n → ∃ a s u k, as[j]? = some (.ref a) ∧ (a, tup2 (p j).num s (p j).den u k) ∈ led ∧ Sz e (p j))
    (hv : v < n) (hx : (x, tup2 q.num sx q.den ux kx) ∈ led) (hq : Sz e q) (hD : (D, listObj (as.take v ++ [.ref x] ++ as.drop (v + 1)) c2) ∈ led) : RowAt n led D (fun j => if j = v then q else p j) e :=
  ⟨_, _, hD, put_len h hv, fun j hj => by
    rw [put_get h hv]
    by_cases g : j = v
    · exact ⟨x, sx, ux, kx, by rw [if_pos g], by simp only [if_pos g]; exact hx, by simp only [if_pos g]; exact hq⟩
    · obtain ⟨a, s, u, k, h1, h2, h3⟩ := hall j hj
      exact ⟨a, s, u, k, by rw [if_neg g]; exact h1, by simp only [if_neg g]; exact h2, by simp only [if_neg g]; exact h3⟩⟩
inductive RowPost (n : Nat) (x : Nat → Rat) (e : Nat) (news news' : List (Addr × Obj)) (r : Value) : Prop
  | mk (D : Addr) (tl : List (Addr × Obj)) (f0 : r = .ref D) (f1 : news' = tl ++ news) (f2 : RowAt n news' D x e) (f3 : Away tl news) : RowPost n x e news news' r
theorem row_ret {n e : Nat} {x : Nat → Rat} {h₀ h' : Heap} {L : Addr} {m : Str → Option Value} {s : Shared} {Q : Value → Shared → Prop} {news all : List (Addr × Obj)} {tk : Nat} {D : Addr} {c : Nat} {fs : List Value}
    (hret : ∀ r news' h' tk', Fr h₀ L h' m → News h₀ L h' news' → RowPost n x e news news' r → Q r { s with heap := h', toks := tk' })
    (F' : Fr h₀ L h' m) (N : News h₀ L h' all) (hs : ∀ p ∈ news, p ∈ all) (hD : (D, listObj fs c) ∈ all) (it : Items (KRat x e) n fs all) : Q (.ref D) { s with heap := h', toks := tk } := by
  obtain ⟨tl, b1, b2, b3⟩ := split_ledger N hs
  exact hret _ (tl ++ news) _ _ F' (fun p hp => N p (b2 p hp)) ⟨D, tl, rfl, rfl, row_of (it.sub KRat.mono b1) (b1 _ hD), b3⟩
inductive SD (L lx lg : Addr) (base : List (Addr × Obj)) (CA : Option Value → Prop) (q : Rat) (f : Nat → Rat) (e v : Nat) (mm : Str → Option Value) (nw : List (Addr × Obj)) : Prop
  | mk (Df Db : Addr) (sb ub : Tok) (kb : Nat) (fs : List Value) (cf : Nat) (oA oG oR : Obj) (vA : Option Value) (rest : List (Addr × Obj)) (f0 : mm (PySem.Str.ofString "found") = some (.ref Df)) (f1 : mm (PySem.Str.ofString "below") = some (.ref Db)) (f2 : oA.data = .cell vA) (f3 : oG.data = .cell (some (.ref lg))) (f4 : oR.data = .cell (some (.ref lx))) (f5 : CA vA)
      (f6 : nw = (L + 1 + 1 + 1, oA) :: (L + 1 + 1, oG) :: (L + 1, oR) :: (Df, listObj fs cf) :: rest)
      (f7 : @Ne Nat Df (L + 1 + 1 + 1)) (f8 : @Ne Nat Df (L + 1 + 1)) (f9 : @Ne Nat Df (L + 1)) (f10 : ∀ p ∈ rest, p.1 ≠ L + 1 + 1 + 1) (f11 : ∀ p ∈ rest, p.1 ≠ L + 1 + 1) (f12 : ∀ p ∈ rest, p.1 ≠ L + 1) (f13 : ∀ p ∈ rest, p.1 ≠ Df) (f14 : ∀ p ∈ base, p ∈ rest) (f15 : (Db, tup2 q.num sb q.den ub kb) ∈ rest) (f16 : Items (KRat f e) v fs rest) : SD L lx lg base CA q f e v mm nw
theorem SD.intro {L lx lg Df Db : Addr} {base all l1 l2 l3 rest : List (Addr × Obj)} {CA : Option Value → Prop} {q : Rat} {f : Nat → Rat} {e v cf : Nat} {mm : Str → Option Value} {oA oG oR : Obj} {vA : Option Value} {fs : List Value} {sb ub : Tok} {kb : Nat} (D1 : Del (L + 1 + 1 + 1) oA all l1) (D2 : Del (L + 1 + 1) oG l1 l2) (D3 : Del (L + 1) oR l2 l3) (D4 : Del Df (listObj fs cf) l3 rest)
    (h0 : mm (PySem.Str.ofString "found") = some (.ref Df)) (h1 : mm (PySem.Str.ofString "below") = some (.ref Db)) (h2 : oA.data = .cell vA) (h3 : oG.data = .cell (some (.ref lg))) (h4 : oR.data = .cell (some (.ref lx))) (h5 : CA vA) (h14 : ∀ p ∈ base, p ∈ rest) (h15 : (Db, tup2 q.num sb q.den ub kb) ∈ rest) (h16 : Items (KRat f e) v fs rest) :
    ∃ small, (∀ p ∈ small, p ∈ all) ∧ SD L lx lg base CA q f e v mm small := by
  obtain ⟨a1, b1, c1⟩ := D1.facts
  obtain ⟨a2, b2, c2⟩ := D2.facts
  obtain ⟨a3, b3, c3⟩ := D3.facts
  obtain ⟨a4, b4, c4⟩ := D4.facts
  exact ⟨(L + 1 + 1 + 1, oA) :: (L + 1 + 1, oG) :: (L + 1, oR) :: (Df, listObj fs cf) :: rest, sub_cons a1 (sub_cons (b1 _ a2) (sub_cons (b1 _ (b2 _ a3)) (sub_cons (b1 _ (b2 _ (b3 _ a4))) fun p hp => b1 p (b2 p (b3 p (b4 p hp)))))), Df, Db, sb, ub, kb, fs, cf, oA, oG, oR, vA, rest, h0, h1, h2, h3, h4, h5, rfl, c1 _ (b2 _ (b3 _ a4)), c2 _ (b3 _ a4), c3 _ a4, fun p hp => c1 p (b2 p (b3 p (b4 p hp))), fun p hp => c2 p (b3 p (b4 p hp)), fun p hp => c3 p (b4 p hp), c4, h14, h15, h16⟩
theorem off4_of {I a b c d : Addr} {o o2 o3 o4 : Obj} {rest : List (Addr × Obj)} (h : LCg.Off1 I ((a, o) :: (b, o2) :: (c, o3) :: (d, o4) :: rest)) : @Ne Nat a I ∧ @Ne Nat b I ∧ @Ne Nat c I ∧ @Ne Nat d I ∧ ∀ p ∈ rest, p.1 ≠ I :=
  have h := off1_mem h
  ⟨h (a, o) (.head _), h (b, o2) (.tail _ (.head _)), h (c, o3) (.tail _ (.tail _ (.head _))), h (d, o4) (.tail _ (.tail _ (.tail _ (.head _)))), fun p hp => h p (.tail _ (.tail _ (.tail _ (.tail _ hp))))⟩
theorem perm5d {α : Type} {a b c d e : α} {tl l : List α} : ∀ p ∈ a :: b :: c :: d :: e :: (tl ++ l), p ∈ tl ++ a :: b :: c :: d :: e :: l := perm_in (h := [a, b, c, d, e])
theorem wordsg24 : True := by
  k_with_none
  k_with "execs cons" => first | (k_here; k_gentoks) | ((with_reducible refine wpAny_execs_cons ?_); k_fold)
  k_with "k_mem" => ((repeat' (first | (with_reducible exact mq0) | ktr_member | (with_reducible exact mq1) | (with_reducible exact mq2) | (with_reducible exact mq3) | (with_reducible exact mq4) | (with_reducible exact mq5) | (with_reducible exact mq6) | (with_reducible exact mq7) | (with_reducible exact mq8) | (with_reducible exact mq9) | (with_reducible refine List.mem_append_right _ ?_) | (with_reducible refine mqt ?_))); done)
  k_with "mul_fits" => exact Fit.mul (by assumption) (by assumption)
  k_with "k_ne" => first | (with_reducible refine' neN ?oa_w11; (case oa_w11 => with_reducible assumption)) | (refine' ne_symN ?oa_w11; (case oa_w11 => with_reducible assumption)) | (refine' nsl1 ?oa_w11; (case oa_w11 => repeat' (first | exact Nat.le_refl _ | refine Nat.le_succ_of_le ?_))) | (refine' nsr1 ?oa_w11; (case oa_w11 => repeat' (first | exact Nat.le_refl _ | refine Nat.le_succ_of_le ?_))) | (refine' Ne3.ci ?oa_w11; (case oa_w11 => with_reducible assumption)) | (refine' Ne3.di ?oa_w11; (case oa_w11 => with_reducible assumption)) | (refine' Ne3.dc ?oa_w11; (case oa_w11 => with_reducible assumption)) | (refine' ne_lt ?oa_w11 ?ob_w11; (case oa_w11 => with_reducible assumption); (case ob_w11 => k_mem)) | (refine' ne_lt' ?oa_w11 ?ob_w11; (case oa_w11 => with_reducible assumption); (case ob_w11 => k_mem)) | (refine' ne_off1 ?oa_w11 ?ob_w11; (case oa_w11 => with_reducible assumption); (case ob_w11 => k_mem)) | (refine' ne_off1' ?oa_w11 ?ob_w11; (case oa_w11 => with_reducible assumption); (case ob_w11 => k_mem)) | (refine' ne_off3I ?oa_w11 ?ob_w11; (case oa_w11 => with_reducible assumption); (case ob_w11 => k_mem)) | (refine' ne_off3C ?oa_w11 ?ob_w11; (case oa_w11 => with_reducible assumption); (case ob_w11 => k_mem)) | (refine' ne_off3D ?oa_w11 ?ob_w11; (case oa_w11 => with_reducible assumption); (case ob_w11 => k_mem)) | (refine' ne_off3I' ?oa_w11 ?ob_w11; (case oa_w11 => with_reducible assumption); (case ob_w11 => k_mem)) | (refine' ne_off3C' ?oa_w11 ?ob_w11; (case oa_w11 => with_reducible assumption); (case ob_w11 => k_mem)) | (refine' ne_off3D' ?oa_w11 ?ob_w11; (case oa_w11 => with_reducible assumption); (case ob_w11 => k_mem)) | ((refine neN ?_); (try dsimp only); first | (with_reducible assumption) | (refine' ne_symN ?oa_w11; (case oa_w11 => with_reducible assumption)) | (refine' nsl1 ?oa_w11; (case oa_w11 => repeat' (first | exact Nat.le_refl _ | refine Nat.le_succ_of_le ?_))) | (refine' nsr1 ?oa_w11; (case oa_w11 => repeat' (first | exact Nat.le_refl _ | refine Nat.le_succ_of_le ?_))) | (refine' Ne3.ci ?oa_w11; (case oa_w11 => with_reducible assumption)) | (refine' Ne3.di ?oa_w11; (case oa_w11 => with_reducible assumption)) | (refine' Ne3.dc ?oa_w11; (case oa_w11 => with_reducible assumption)) | (refine' ne_lt ?oa_w11 ?ob_w11; (case oa_w11 => with_reducible assumption); (case ob_w11 => k_mem)) | (refine' ne_lt' ?oa_w11 ?ob_w11; (case oa_w11 => with_reducible assumption); (case ob_w11 => k_mem)) | (refine' ne_off1 ?oa_w11 ?ob_w11; (case oa_w11 => with_reducible assumption); (case ob_w11 => k_mem)) | (refine' ne_off1' ?oa_w11 ?ob_w11; (case oa_w11 => with_reducible assumption); (case ob_w11 => k_mem)) | (refine' ne_off3I ?oa_w11 ?ob_w11; (case oa_w11 => with_reducible assumption); (case ob_w11 => k_mem)) | (refine' ne_off3C ?oa_w11 ?ob_w11; (case oa_w11 => with_reducible assumption); (case ob_w11 => k_mem)) | (refine' ne_off3D ?oa_w11 ?ob_w11; (case oa_w11 => with_reducible assumption); (case ob_w11 => k_mem)) | (refine' ne_off3I' ?oa_w11 ?ob_w11; (case oa_w11 => with_reducible assumption); (case ob_w11 => k_mem)) | (refine' ne_off3C' ?oa_w11 ?ob_w11; (case oa_w11 => with_reducible assumption); (case ob_w11 => k_mem)) | (refine' ne_off3D' ?oa_w11 ?ob_w11; (case oa_w11 => with_reducible assumption); (case ob_w11 => k_mem)) | omega)
  k_with "k_all" => ((repeat' (first | (refine' ne_id ?oa_w12; (case oa_w12 => with_reducible assumption)) | (with_reducible refine' ne_cons ?_ ?_) | (with_reducible refine' List.forall_mem_cons.mpr ⟨?_, ?_⟩) | exact List.forall_mem_nil _ | (refine' ne_id ?oa_w12; (case oa_w12 => with_reducible assumption)) | (refine' tail_lt ?oa_w12 ?ob_w12; (case oa_w12 => with_reducible assumption); (case ob_w12 => kcj_all)) | (refine' tail_off1 ?oa_w12 ?ob_w12; (case oa_w12 => with_reducible assumption); (case ob_w12 => kcj_all)) | (refine' tail_off3I ?oa_w12 ?ob_w12; (case oa_w12 => with_reducible assumption); (case ob_w12 => kcj_all)) | (refine' tail_off3C ?oa_w12 ?ob_w12; (case oa_w12 => with_reducible assumption); (case ob_w12 => kcj_all)) | (refine' tail_off3D ?oa_w12 ?ob_w12; (case oa_w12 => with_reducible assumption); (case ob_w12 => kcj_all)) | (refine' ne_of_allLt_le ?oa_w12 ?ob_w12; (case oa_w12 => with_reducible assumption); (case ob_w12 => omega)) | k_ne)); done)
  k_with "k_upd" => ((repeat' (first | (with_reducible refine' Del.head ?_) | (with_reducible refine' Del.tail ?_ ?_) | (with_reducible refine' Upd.head ?_) | (with_reducible refine' Upd.tail ?_ ?_) | (with_reducible refine' UpdF.head ?_) | (with_reducible refine' UpdF.tail ?_ ?_) | (with_reducible refine' Del.appA (by with_reducible assumption) ?_) | (with_reducible refine' Upd.app (by with_reducible assumption) ?_) | k_all | k_ne)); done)
  k_with "kcj_all" => ((repeat' (first | (with_reducible exact mem_same) | exact List.forall_mem_nil _ | (with_reducible refine' sub_cons ?_ ?_) | (with_reducible refine' List.forall_mem_cons.mpr ⟨?_, ?_⟩) | (with_reducible exact mem_appl) | (with_reducible refine' mem_step ?_) | (with_reducible refine' mem_apps ?_ ?_) | (with_reducible refine' mem_app ?_) | k_mem)); done)
  k_with "exec For Name Name cons nil" => (k_here; (rename Fr _ _ _ _ => lF'_w21); (with_unfolding_all refine' For_invVF lF'_w21 ?k1_w21 ?k2_w21 ?_; (case k1_w21 => exact rfl); (case k2_w21 => exact rfl); k_whole); l_hasStore)
  k_with "pyIter ref" => ((with_reducible show wpAny _ _ (pyIter (Value.ref _)) (fun it s₂ => LoopAtV _ _ _ _ _ _ _ _ _ it s₂) _ _); (rename Fr _ _ _ _ => lF'_w22); (rename News _ _ _ _ => lN'_w22); (with_unfolding_all refine' iter_listUnr ?hh_w22 lF'_w22 lN'_w22 ?hm_w22 ?hc_w22 ?hd_w22 ?_; (case hh_w22 => exact rfl); (case hm_w22 => k_mem); (case hc_w22 => exact rfl); (case hd_w22 => exact rfl)); clear lF'_w22 lN'_w22; intro i'_w22 l1_w22; (have l1'_w22 := allLt_of l1_w22); clear l1_w22)
  k_with "UnrEnd" => (k_here; k_dflt (refine' unr_end ?F_w23 ?N_w23 ?D_w23 ?_; (case F_w23 => k_asm); (case N_w23 => k_asm); (case D_w23 => k_upd)); (try (refine ⟨by k_mem, ?_⟩)))
  k_with "FinE" => ((unfold LCg.FinE); intro D'_w38 h'_w38 tk'_w38 F'_w38 N'_w38 o1'_w38; (try simp only [List.nil_append, List.cons_append] at N'_w38); (try dsimp only))
  k_with "FinA" => ((unfold LCg.FinA); intro D'_w39 h'_w39 tk'_w39 F'_w39 N'_w39 o1'_w39; (try simp only [List.nil_append, List.cons_append] at N'_w39); (try dsimp only))
  k_with "UnrEnd" => (k_here; k_dflt (refine' unr_keep (o := tup2 _ _ _ _ _) ?F_w40 ?N_w40 ?hs_w40 ?K_w40 ?h1_w40 ?off_w40 ?_; (case F_w40 => k_asm); (case N_w40 => k_asm); (case hs_w40 => ((repeat' (first | (with_reducible exact mem_same) | (with_reducible exact mem_appl) | (with_reducible refine' mem_step ?_) | (with_reducible refine' mem_apps ?_ ?_) | (with_reducible refine' mem_app ?_))); done)); (case K_w40 => k_mem); (case h1_w40 => k_ne); (case off_w40 => k_all)); (try (refine ⟨by k_mem, ?_⟩)))
  k_with "call ref" => (k_here; (with_reducible show wpAny _ _ (call (Value.ref 74) _) _ _ _); k_dflt (refine' sum_use ?k1_w15 ?k2_w15 ?k3_w15 ?k4_w15 ?k5_w15 ?kK_w15 ?kd_w15 ?ku_w15 ?g_w15 ?hx_w15 ?hy_w15 ?i1_w15 ?i2_w15 ?i3_w15 ?i4_w15 ?hp_w15 ?hq_w15 ?hs_w15 ?_; (case k1_w15 => k_asm); (case k2_w15 => k_asm); (case k3_w15 => k_asm); (case k4_w15 => k_asm); (case k5_w15 => k_asm); (case kK_w15 => first | exact rfl | assumption); (case kd_w15 => ktr_room); (case ku_w15 => ktr_units); (case g_w15 => assumption); (case hx_w15 => k_mem); (case hy_w15 => k_mem); (case i1_w15 => first | exact rfl | exact num0 | exact num1); (case i2_w15 => first | exact rfl | exact den0 | exact den1); (case i3_w15 => first | exact rfl | exact num0 | exact num1); (case i4_w15 => first | exact rfl | exact den0 | exact den1); (case hp_w15 => first | (with_reducible assumption) | exact Sz.zero | exact Sz.one); (case hq_w15 => first | (with_reducible assumption) | exact Sz.zero | exact Sz.one); (case hs_w15 => omega); k_whole); intro D'_w15 u1'_w15 u2'_w15 c'_w15 h'_w15 tk'_w15 F'_w15 N'_w15 l1'_w15 sz'_w15; (try dsimp only); (try k_fold))
  k_with "call ref" => (k_here; (with_reducible show wpAny _ _ (call (Value.ref 81) _) _ _ _); k_dflt (refine' diff_use ?k1_w16 ?k2_w16 ?k3_w16 ?k4_w16 ?k5_w16 ?kK_w16 ?kd_w16 ?ku_w16 ?g_w16 ?hx_w16 ?hy_w16 ?i1_w16 ?i2_w16 ?i3_w16 ?i4_w16 ?hp_w16 ?hq_w16 ?hs_w16 ?_; (case k1_w16 => k_asm); (case k2_w16 => k_asm); (case k3_w16 => k_asm); (case k4_w16 => k_asm); (case k5_w16 => k_asm); (case kK_w16 => first | exact rfl | assumption); (case kd_w16 => ktr_room); (case ku_w16 => ktr_units); (case g_w16 => assumption); (case hx_w16 => k_mem); (case hy_w16 => k_mem); (case i1_w16 => first | exact rfl | exact num0 | exact num1); (case i2_w16 => first | exact rfl | exact den0 | exact den1); (case i3_w16 => first | exact rfl | exact num0 | exact num1); (case i4_w16 => first | exact rfl | exact den0 | exact den1); (case hp_w16 => first | (with_reducible assumption) | exact Sz.zero | exact Sz.one); (case hq_w16 => first | (with_reducible assumption) | exact Sz.zero | exact Sz.one); (case hs_w16 => omega); k_whole); intro D'_w16 u1'_w16 u2'_w16 c'_w16 h'_w16 tk'_w16 F'_w16 N'_w16 l1'_w16 sz'_w16; (try dsimp only); (try k_fold))
  k_with "call ref" => (k_here; (with_reducible show wpAny _ _ (call (Value.ref 88) _) _ _ _); k_dflt (refine' prod_use ?k1_w17 ?k2_w17 ?k3_w17 ?k4_w17 ?k5_w17 ?kK_w17 ?kd_w17 ?ku_w17 ?g_w17 ?hx_w17 ?hy_w17 ?i1_w17 ?i2_w17 ?i3_w17 ?i4_w17 ?hp_w17 ?hq_w17 ?hs_w17 ?_; (case k1_w17 => k_asm); (case k2_w17 => k_asm); (case k3_w17 => k_asm); (case k4_w17 => k_asm); (case k5_w17 => k_asm); (case kK_w17 => first | exact rfl | assumption); (case kd_w17 => ktr_room); (case ku_w17 => ktr_units); (case g_w17 => assumption); (case hx_w17 => k_mem); (case hy_w17 => k_mem); (case i1_w17 => first | exact rfl | exact num0 | exact num1); (case i2_w17 => first | exact rfl | exact den0 | exact den1); (case i3_w17 => first | exact rfl | exact num0 | exact num1); (case i4_w17 => first | exact rfl | exact den0 | exact den1); (case hp_w17 => first | (with_reducible assumption) | exact Sz.zero | exact Sz.one); (case hq_w17 => first | (with_reducible assumption) | exact Sz.zero | exact Sz.one); (case hs_w17 => omega); k_whole); intro D'_w17 u1'_w17 u2'_w17 c'_w17 h'_w17 tk'_w17 F'_w17 N'_w17 l1'_w17 sz'_w17; (try dsimp only); (try k_fold))
  k_with "call ref" => (k_here; (with_reducible show wpAny _ _ (call (Value.ref 95) _) _ _ _); k_dflt (refine' quot_use ?k1_w18 ?k2_w18 ?k3_w18 ?k4_w18 ?k5_w18 ?kK_w18 ?kd_w18 ?ku_w18 ?g_w18 ?hx_w18 ?hy_w18 ?i1_w18 ?i2_w18 ?i3_w18 ?i4_w18 ?hp_w18 ?hq_w18 ?hs_w18 ?hn_w18 ?_; (case k1_w18 => k_asm); (case k2_w18 => k_asm); (case k3_w18 => k_asm); (case k4_w18 => k_asm); (case k5_w18 => k_asm); (case kK_w18 => first | exact rfl | assumption); (case kd_w18 => ktr_room); (case ku_w18 => ktr_units); (case g_w18 => assumption); (case hx_w18 => k_mem); (case hy_w18 => k_mem); (case i1_w18 => first | exact rfl | exact num0 | exact num1); (case i2_w18 => first | exact rfl | exact den0 | exact den1); (case i3_w18 => first | exact rfl | exact num0 | exact num1); (case i4_w18 => first | exact rfl | exact den0 | exact den1); (case hp_w18 => first | (with_reducible assumption) | exact Sz.zero | exact Sz.one); (case hq_w18 => first | (with_reducible assumption) | exact Sz.zero | exact Sz.one); (case hs_w18 => omega); (case hn_w18 => assumption); k_whole); intro D'_w18 u1'_w18 u2'_w18 c'_w18 h'_w18 tk'_w18 F'_w18 N'_w18 l1'_w18 sz'_w18; (try dsimp only); (try k_fold))
  k_with "call ref" => (k_here; (with_reducible show wpAny _ _ (call (Value.ref 102) _) _ _ _); k_dflt (refine' neg_use ?k1_w19 ?k2_w19 ?k3_w19 ?k4_w19 ?k5_w19 ?kK_w19 ?kd_w19 ?ku_w19 ?hx_w19 ?i1_w19 ?i2_w19 ?hp_w19 ?_; (case k1_w19 => k_asm); (case k2_w19 => k_asm); (case k3_w19 => k_asm); (case k4_w19 => k_asm); (case k5_w19 => k_asm); (case kK_w19 => first | exact rfl | assumption); (case kd_w19 => ktr_room); (case ku_w19 => ktr_units); (case hx_w19 => k_mem); (case i1_w19 => first | exact rfl | exact num0 | exact num1); (case i2_w19 => first | exact rfl | exact den0 | exact den1); (case hp_w19 => first | (with_reducible assumption) | exact Sz.zero | exact Sz.one); k_whole); intro D'_w19 u1'_w19 u2'_w19 c'_w19 h'_w19 tk'_w19 F'_w19 N'_w19 l1'_w19 sz'_w19; (try dsimp only); (try k_fold))
  k_with "call ref" => (k_here; (with_reducible show wpAny _ _ (call (Value.ref 116) _) _ _ _); k_dflt (refine' order_use ?k1_w20 ?k2_w20 ?k3_w20 ?k4_w20 ?k5_w20 ?kK_w20 ?kd_w20 ?ku_w20 ?hx_w20 ?hy_w20 ?i1_w20 ?i2_w20 ?i3_w20 ?i4_w20 ?hp_w20 ?hq_w20 ?hs_w20 ?_; (case k1_w20 => k_asm); (case k2_w20 => k_asm); (case k3_w20 => k_asm); (case k4_w20 => k_asm); (case k5_w20 => k_asm); (case kK_w20 => first | exact rfl | assumption); (case kd_w20 => ktr_room); (case ku_w20 => ktr_units); (case hx_w20 => k_mem); (case hy_w20 => k_mem); (case i1_w20 => first | exact rfl | exact num0 | exact num1); (case i2_w20 => first | exact rfl | exact den0 | exact den1); (case i3_w20 => first | exact rfl | exact num0 | exact num1); (case i4_w20 => first | exact rfl | exact den0 | exact den1); (case hp_w20 => first | (with_reducible assumption) | exact Sz.zero | exact Sz.one); (case hq_w20 => first | (with_reducible assumption) | exact Sz.zero | exact Sz.one); (case hs_w20 => omega); k_whole); intro u'_w20 h'_w20 tk'_w20 F'_w20 N'_w20; (try dsimp only); (try k_fold))
  k_with "subscriptTail" => (k_here; (with_reducible show wpAny _ _ (subscriptTail _ _ (Value.ref _) (Value.int _ _)) _ _ _); k_dflt (refine' item_led ?N_w66 ?m_w66 ?a_w66 ?b_w66 ?x_w66 ?_; (case N_w66 => k_asm); (case m_w66 => k_mem); (case a_w66 => first | (with_reducible assumption) | decide); (case b_w66 => first | (with_reducible assumption) | decide); (case x_w66 => first | (with_reducible assumption) | exact rfl); k_whole))
  k_with "subscriptTail Name" => (k_here; (with_reducible show wpAny _ _ (subscriptTail _ _ (Value.ref _) (Value.int _ _)) _ _ _); k_dflt (refine' item_led ?N_w67 ?m_w67 ?a_w67 ?b_w67 ?x_w67 ?_; (case N_w67 => k_asm); (case m_w67 => k_mem); (case a_w67 => first | (with_reducible assumption) | decide); (case b_w67 => first | (with_reducible assumption) | decide); (case x_w67 => first | (with_reducible assumption) | exact rfl); k_whole))
  k_with "subscriptTail Name Constant ref int" => (k_here; (with_reducible show wpAny _ _ (subscriptTail _ _ (Value.ref _) (Value.int _ _)) _ _ _); k_dflt (refine' item_led ?N_w68 ?m_w68 ?a_w68 ?b_w68 ?x_w68 ?_; (case N_w68 => k_asm); (case m_w68 => k_mem); (case a_w68 => first | (with_reducible assumption) | decide); (case b_w68 => first | (with_reducible assumption) | decide); (case x_w68 => first | (with_reducible assumption) | exact rfl); k_whole))
  k_with "subscriptTail Name Name ref int" => (k_here; (with_reducible show wpAny _ _ (subscriptTail _ _ (Value.ref _) (Value.int _ _)) _ _ _); k_dflt (refine' item_led ?N_w69 ?m_w69 ?a_w69 ?b_w69 ?x_w69 ?_; (case N_w69 => k_asm); (case m_w69 => k_mem); (case a_w69 => first | (with_reducible assumption) | decide); (case b_w69 => first | (with_reducible assumption) | decide); (case x_w69 => first | (with_reducible assumption) | exact rfl); k_whole))
  k_with "subscriptTail Subscript Name Constant Name ref int" => (k_here; (with_reducible show wpAny _ _ (subscriptTail _ _ (Value.ref _) (Value.int _ _)) _ _ _); k_dflt (refine' item_led ?N_w70 ?m_w70 ?a_w70 ?b_w70 ?x_w70 ?_; (case N_w70 => k_asm); (case m_w70 => k_mem); (case a_w70 => first | (with_reducible assumption) | decide); (case b_w70 => first | (with_reducible assumption) | decide); (case x_w70 => first | (with_reducible assumption) | exact rfl); k_whole))
  k_with "subscriptTail Subscript Name Constant Constant ref int" => (k_here; (with_reducible show wpAny _ _ (subscriptTail _ _ (Value.ref _) (Value.int _ _)) _ _ _); k_dflt (refine' item_led ?N_w71 ?m_w71 ?a_w71 ?b_w71 ?x_w71 ?_; (case N_w71 => k_asm); (case m_w71 => k_mem); (case a_w71 => first | (with_reducible assumption) | decide); (case b_w71 => first | (with_reducible assumption) | decide); (case x_w71 => first | (with_reducible assumption) | exact rfl); k_whole))
  k_with "subscriptTail Subscript Name Name Name ref int" => (k_here; (with_reducible show wpAny _ _ (subscriptTail _ _ (Value.ref _) (Value.int _ _)) _ _ _); k_dflt (refine' item_led ?N_w72 ?m_w72 ?a_w72 ?b_w72 ?x_w72 ?_; (case N_w72 => k_asm); (case m_w72 => k_mem); (case a_w72 => first | (with_reducible assumption) | decide); (case b_w72 => first | (with_reducible assumption) | decide); (case x_w72 => first | (with_reducible assumption) | exact rfl); k_whole))
  k_with "subscriptTail Subscript Name Name Constant ref int" => (k_here; (with_reducible show wpAny _ _ (subscriptTail _ _ (Value.ref _) (Value.int _ _)) _ _ _); k_dflt (refine' item_led ?N_w73 ?m_w73 ?a_w73 ?b_w73 ?x_w73 ?_; (case N_w73 => k_asm); (case m_w73 => k_mem); (case a_w73 => first | (with_reducible assumption) | decide); (case b_w73 => first | (with_reducible assumption) | decide); (case x_w73 => first | (with_reducible assumption) | exact rfl); k_whole))
  k_with "getItem ref int" => (k_here; (with_reducible show wpAny _ _ (getItem (Value.ref _) (Value.int _ _)) _ _ _); k_dflt (refine' getItem_led ?N_w74 ?m_w74 ?a_w74 ?b_w74 ?x_w74 ?_; (case N_w74 => k_asm); (case m_w74 => k_mem); (case a_w74 => first | (with_reducible assumption) | decide); (case b_w74 => first | (with_reducible assumption) | decide); (case x_w74 => first | (with_reducible assumption) | exact rfl); k_whole))
  k_with "callWith builtin:list.append cons nil" => refine callWith_method1 ?_
  k_with "callWith builtin:len nil nil" => refine callWith_builtin1 ?_
  k_with "callWith builtin:len cons nil" => refine callWith_builtin1 ?_
  k_with "exec Assign cons ListComp" => (k_here; k_dflt (refine LCg.Assign_ListComp_U (F₀ := by k_asm) (by rfl) (by with_unfolding_all rfl) (by with_unfolding_all rfl) (by decide) (by rfl) (by decide) (by rfl) (by rfl) (by rfl) ?_))
  k_with "call builtin:list.append cons nil" => (k_here; k_dflt (refine' append_K ?k1_w46 ?k2_w46 ?k3_w46 ?_ ?z_w46; (case k1_w46 => k_asm); (case k2_w46 => k_asm); (case k3_w46 => k_upd); (case z_w46 => size_fits); k_whole); intro h'_w46 F'_w46 N'_w46; (try k_sweep))
  k_with "eval Name" => (k_here; (with_reducible show wpAny _ _ (eval (PySem.Expr.Name _ _) (envOfC _ _ _ _ _)) _ _ _); k_dflt (first | (refine' nameX_L ?F_w47 ?v_w47 ?_ ?a_w47 ?b_w47; (case a_w47 => rfl); (case b_w47 => rfl); (case F_w47 => k_asm); (case v_w47 => rfl); k_whole) | (refine' nameX_C ?N_w47 ?c_w47 ?m_w47 ?d_w47 ?_ ?a_w47 ?b_w47; (case a_w47 => rfl); (case b_w47 => rfl); (case N_w47 => k_asm); (case c_w47 => rfl); (case m_w47 => k_mem); (case d_w47 => with_reducible assumption); k_whole) | (refine' nameX_K ?F_w47 ?X_w47 ?T_w47 ?e_w47 ?_ ?a_w47 ?b_w47; (case a_w47 => rfl); (case b_w47 => rfl); (case F_w47 => k_asm); (case X_w47 => k_asm); (case T_w47 => k_asm); (case e_w47 => k_is); k_whole)))
  k_with "eval Name" => (k_here; (with_reducible show wpAny _ _ (eval (PySem.Expr.Name _ _) (envOfC _ _ _ _ _)) _ _ _); k_dflt (first | (refine' nameX_L ?F_w75 ?v_w75 ?_ ?a_w75 ?b_w75; (case a_w75 => rfl); (case b_w75 => rfl); (case F_w75 => k_asm); (case v_w75 => first | rfl | assumption); k_whole) | (refine' nameX_C ?N_w75 ?c_w75 ?m_w75 ?d_w75 ?_ ?a_w75 ?b_w75; (case a_w75 => rfl); (case b_w75 => rfl); (case N_w75 => k_asm); (case c_w75 => rfl); (case m_w75 => k_mem); (case d_w75 => with_reducible assumption); k_whole) | (refine' nameX_K ?F_w75 ?X_w75 ?T_w75 ?e_w75 ?_ ?a_w75 ?b_w75; (case a_w75 => rfl); (case b_w75 => rfl); (case F_w75 => k_asm); (case X_w75 => k_asm); (case T_w75 => k_asm); (case e_w75 => k_is); k_whole)))
  k_with "call builtin:len" => (k_here; (with_reducible show wpAny _ _ (call (Value.builtin "len") [Value.ref _]) _ _ _); k_dflt (refine' len_led ?k1_w76 ?k2_w76 ?k3_w76 ?k4_w76 ?_; (case k1_w76 => k_asm); (case k2_w76 => k_mem); (case k3_w76 => first | (with_reducible assumption) | (refine' len_set ?z_w76; (case z_w76 => with_reducible assumption))); (case k4_w76 => omega); k_whole); (try dsimp only))
  k_with "compareOp Eq ref ref" => (k_here; (with_reducible show wpAny _ _ (compareOp CmpOp.Eq (Value.ref _) (Value.ref _)) _ _ _); k_dflt (refine' eq_rats ?N_w77 ?ha_w77 ?hb_w77 ?i1_w77 ?i2_w77 ?i3_w77 ?i4_w77 ?hu_w77 ?_; (case N_w77 => k_asm); (case ha_w77 => k_mem); (case hb_w77 => k_mem); (case i1_w77 => first | exact rfl | exact num0 | exact num1); (case i2_w77 => first | exact rfl | exact den0 | exact den1); (case i3_w77 => first | exact rfl | exact num0 | exact num1); (case i4_w77 => first | exact rfl | exact den0 | exact den1); (case hu_w77 => first | ktr_units | units_room | omega); k_whole))
  k_with "compareOp NotEq ref ref" => (k_here; (with_reducible show wpAny _ _ (compareOp CmpOp.NotEq (Value.ref _) (Value.ref _)) _ _ _); k_dflt (refine' ne_rats ?N_w78 ?ha_w78 ?hb_w78 ?i1_w78 ?i2_w78 ?i3_w78 ?i4_w78 ?hu_w78 ?_; (case N_w78 => k_asm); (case ha_w78 => k_mem); (case hb_w78 => k_mem); (case i1_w78 => first | exact rfl | exact num0 | exact num1); (case i2_w78 => first | exact rfl | exact den0 | exact den1); (case i3_w78 => first | exact rfl | exact num0 | exact num1); (case i4_w78 => first | exact rfl | exact den0 | exact den1); (case hu_w78 => first | ktr_units | units_room | omega); k_whole))
  k_with "setItem ref int ref" => (k_here; k_dflt (refine' set_any ?k1_w79 ?k2_w79 ?k3_w79 ?k4_w79 ?k5_w79 ?k6_w79 ?_; (case k1_w79 => k_asm); (case k2_w79 => k_asm); (case k6_w79 => k_upd); (case k3_w79 => with_reducible assumption); (case k4_w79 => with_reducible assumption); (case k5_w79 => (try simp only [List.length_set]); omega); k_whole); intro h'_w79 F'_w79 N'_w79; (try k_sweep))
  k_with "exec Assign cons ListComp" => (k_here; k_dflt (first | (refine LCg.Assign_ListComp_U (F₀ := by k_asm) (by rfl) (by with_unfolding_all rfl) (by with_unfolding_all rfl) (by decide) (by rfl) (by decide) (by rfl) (by rfl) (by rfl) ?_) | ((with_reducible refine wpAny_Assign_Name ?_ ?_); rotate_left; (with_unfolding_all rfl))))
  k_with "call ref" => (k_here; (with_reducible show wpAny _ _ (call (Value.ref 155) _) _ _ _); k_dflt (refine' size_use ?k1_w80 ?k2_w80 ?k3_w80 ?k4_w80 ?k5_w80 ?kK_w80 ?kd_w80 ?ku_w80 ?hx_w80 ?hp_w80 ?hs_w80 ?_; (case k1_w80 => k_asm); (case k2_w80 => k_asm); (case k3_w80 => k_asm); (case k4_w80 => k_asm); (case k5_w80 => k_asm); (case kK_w80 => first | exact rfl | assumption); (case kd_w80 => ktr_room); (case ku_w80 => ktr_units); (case hx_w80 => k_mem); (case hp_w80 => with_reducible assumption); (case hs_w80 => omega); k_whole); intro D'_w80 u1'_w80 u2'_w80 c'_w80 h'_w80 tk'_w80 F'_w80 N'_w80 sz'_w80; (try dsimp only); (try k_fold))
  k_with "kcj_all" => ((repeat' (first | (with_reducible assumption) | (with_reducible exact mem_same) | exact List.forall_mem_nil _ | (with_reducible refine' sub_cons ?_ ?_) | (with_reducible refine' List.forall_mem_cons.mpr ⟨?_, ?_⟩) | (with_reducible exact mem_appl) | (with_reducible refine' mem_step ?_) | (with_reducible refine' mem_apps ?_ ?_) | (with_reducible refine' mem_app ?_) | k_mem)); done)
  k_with "exec Assign cons ListComp" => (with_reducible refine wpAny_Assign_Subscript ?_ ?_; rotate_left; with_unfolding_all rfl)
  k_with "exec For Name Call cons nil" => (k_here; k_dflt (refine For_C ?_))
  k_with "pyIter ref" => ((with_reducible show wpAny _ _ (pyIter (Value.ref _)) (LoopC _ _ _ _ _ _ _ _ _) _ _); (refine Stop.out ?_))
  k_with "UnrEnd" => (refine Stop.out ?_)
  k_with "call type:list" => (k_here; (with_reducible show wpAny _ _ (call (Value.type _) [Value.ref _]) _ _ _); k_dflt (refine' list_led ?F_g1 ?N_g1 ?b_g1 ?e_g1 ?z_g1 ?_; (case F_g1 => k_asm); (case N_g1 => k_asm); (case b_g1 => k_mem); (case e_g1 => with_reducible assumption); (case z_g1 => omega)); intro D_g1 c_g1 h_g1 F_g1 N_g1 l1_g1; (replace l1_g1 := allLt_of l1_g1); (try k_sweep))
  k_with "CompSrc" => (refine Stop.out ?_)
  k_with "k_upd" => ((repeat' (first | (with_reducible refine' Del.head ?_) | (with_reducible refine' Del.tail ?_ ?_) | (with_reducible refine' Upd.head ?_) | (with_reducible refine' Upd.tail ?_ ?_) | (with_reducible refine' UpdF.head ?_) | (with_reducible refine' UpdF.tail ?_ ?_) | (with_reducible refine' Del.appN (by with_reducible assumption) ?_) | (with_reducible refine' Upd.appN (by with_reducible assumption) ?_) | k_all | k_ne)); done)
  k_with "subscriptTail Name Slice ref ref" => (k_here; (with_reducible show wpAny _ _ (subscriptTail _ (PySem.Expr.Slice _ _ none _) (Value.ref _) (Value.ref _)) _ _ _); k_dflt (refine' slice_led ?F_g4 ?N_g4 ?m_g4 ?p_g4 ?q_g4 ?e_g4 ?z_g4 ?_ ?s_g4 ?t_g4; (case F_g4 => k_asm); (case N_g4 => k_asm); (case m_g4 => k_mem); (case p_g4 => kmk_part); (case q_g4 => kmk_part); (case e_g4 => first | exact pick_from1 (by omega) | exact pick_from (by omega) | exact pick_upto (by omega)); (case z_g4 => omega); (case s_g4 => with_unfolding_all rfl); (case t_g4 => kmk_pure)); intro D_g4 h_g4 F_g4 N_g4 l_g4; (try k_sweep))
  k_with "subscriptTail Subscript Name Name Slice ref ref" => (k_here; (with_reducible show wpAny _ _ (subscriptTail _ (PySem.Expr.Slice _ _ none _) (Value.ref _) (Value.ref _)) _ _ _); k_dflt (refine' slice_led ?F_g4 ?N_g4 ?m_g4 ?p_g4 ?q_g4 ?e_g4 ?z_g4 ?_ ?s_g4 ?t_g4; (case F_g4 => k_asm); (case N_g4 => k_asm); (case m_g4 => k_mem); (case p_g4 => kmk_part); (case q_g4 => kmk_part); (case e_g4 => first | exact pick_from1 (by omega) | exact pick_from (by omega) | exact pick_upto (by omega)); (case z_g4 => omega); (case s_g4 => with_unfolding_all rfl); (case t_g4 => kmk_pure)); intro D_g4 h_g4 F_g4 N_g4 l_g4; (try k_sweep))
  k_with "binaryOp Add ref ref" => (k_here; (with_reducible show wpAny _ _ (binaryOp _ (Value.ref _) (Value.ref _)) _ _ _); k_dflt (refine' add_led ?F_g5 ?N_g5 ?m_g5 ?n_g5 ?z_g5 ?_; (case F_g5 => k_asm); (case N_g5 => k_asm); (case m_g5 => k_mem); (case n_g5 => k_mem); (case z_g5 => (simp only [List.length_take, List.length_drop, List.length_append, List.length_cons, List.length_nil]; omega))); intro D_g5 h_g5 F_g5 N_g5 l_g5; (try k_sweep))
  k_with "call builtin:list.append cons nil" => (k_here; k_dflt (refine' append_led ?k1_g6 ?k2_g6 ?k3_g6 ?z_g6 ?_; (case k1_g6 => k_asm); (case k2_g6 => k_asm); (case k3_g6 => k_upd); (case z_g6 => omega); k_whole); intro h_g6 F_g6 N_g6; (try k_sweep))
  k_with "call ref" => ((with_reducible show wpAny _ _ (call (Value.ref 148) _) _ _ _); (refine Stop.out ?_))
  k_with "call ref" => ((with_reducible show wpAny _ _ (call (Value.ref 143) _) _ _ _); (refine Stop.out ?_))
  k_with "call builtin:len" => (k_here; (with_reducible show wpAny _ _ (call (Value.builtin "len") [Value.ref _]) _ _ _); k_dflt (refine' len_led ?k1_g7 ?k2_g7 ?k3_g7 ?k4_g7 ?_; (case k1_g7 => k_asm); (case k2_g7 => k_mem); (case k3_g7 => with_reducible assumption); (case k4_g7 => omega); k_whole); (try dsimp only))
  trivial
theorem solvedN_does (w : World) (mean : ExcName → Option Value) (mg mb : Str → Option Value) (G : Great mg) (n : Nat) (hn : n ≤ 3) (sn : Nat) (hsn : sn + sn + 1 ≤ 2300)
    (IH : ∀ (news : List (Addr × Obj)) (D : Addr) (P : Nat → Nat → Rat), MatAt n n news D P 2 → Does w mean mg mb 7 148 news [.ref D] (RatPost (detN n P).num (detN n P).den news))
    (hz : ∀ P : Nat → Nat → Rat, (∀ i j, i < n → j < n → Sz 2 (P i j)) → Sz sn (detN n P))
    (news : List (Addr × Obj)) (lx lg : Addr) (P : Nat → Nat → Rat) (b : Nat → Rat) (M : MatAt n n news lx P 2) (R : RowAt n news lg b 2) (hnz : detN n P ≠ 0) :
    Does w mean mg mb 10 170 news [.ref lx, .ref lg] (RowPost n (quoN n P b) (sn + sn) news) := by
  intro dp un gd cn cs a ccd cl outer A₀ base h₀ L m s Q E B F X N T hk hd hu hret
  have M0 := M
  obtain ⟨vs, c, hl, hvl, hrows⟩ := M
  obtain ⟨gs, cg, hg, hgl, hgall⟩ := R
  have hsz : ∀ i j, i < n → j < n → Sz 2 (P i j) := fun i j hi hj => by
    obtain ⟨_, _, _, _, _, _, hall⟩ := hrows i hi
    obtain ⟨_, _, _, _, _, _, h⟩ := hall j hj
    exact h
  have hbz : ∀ i, i < n → Sz 2 (b i) := fun i hi => by
    obtain ⟨_, _, _, _, _, _, h⟩ := hgall i hi
    exact h
  have hdz := hz P hsz
  refine wpAny_call ?_
  k_dflt (refine' code_defC (binds := [(PySem.Str.ofString "rows", .ref lx), (PySem.Str.ofString "goals", .ref lg)]) ?k1 ?k2 ?k3 ?k4 ?k5 ?kA ?kF ?kK ?k6 ?k7 ?k8 ?k9 ?kB ?kD ?_ ?c2 ?c3 ?c4; (case kA => exact rfl); (case kF => exact rfl); (case kK => assumption); (case k1 => k_asm); (case k2 => k_asm); (case k3 => k_asm); (case k4 => k_asm); (case k5 => k_asm); (case k6 => k_is); (case k7 => k_is); (case k8 => ktr_room); (case k9 => exact BindsTo.of_eq rfl); (case kB => exact rfl); (case kD => decide +kernel); (case c2 => exact rfl); (case c3 => exact rfl); (case c4 => exact rfl); k_whole)
  intro g' L' h' tk' cells' FG' F' N' Y' B' X' T' l1
  have l2 := allLt_of l1
  have l3 : AllLt (L' + 1) _ := AllLt.mono l2 (Nat.le_succ _)
  have l4 : AllLt (L' + 1 + 1) _ := AllLt.mono l3 (Nat.le_succ _)
  have l5 : AllLt (L' + 1 + 1 + 1) _ := AllLt.mono l4 (Nat.le_succ _)
  k_cells Y'
  (try simp only [List.cons_append, List.nil_append] at N')
  (try dsimp only)
  (try k_fold)
  k_steps
  refine Stop.mk ?_
  refine' Does.use (IH _ _ P ?M) ?k1 ?k2 ?k3 ?k4 ?k5 ?kK ?kd ?ku ?ret
  (case k1 => k_asm)
  (case k2 => k_asm)
  (case k3 => k_asm)
  (case k4 => k_asm)
  (case k5 => k_asm)
  (case kK => first | exact rfl | assumption)
  (case kd => ktr_room)
  (case ku => ktr_units)
  case M => exact M0.sub (by kcj_all)
  case ret =>
  intro rq nq h3 tk3 F3 N3 hP
  (try k_fold)
  obtain ⟨Dq, sq, uq, kq, rfl, rfl, lq⟩ := hP
  k_steps
  refine Stop.mk ?_
  refine' iter_st (J := (fun I v mm nw => LCg.Off1 I nw ∧ SD L' lx lg news (fun _ => True) (detN n P) (quoN n P b) (sn + sn) v.toNat mm nw)) (T := fun mm nw => SD L' lx lg news (fun _ => True) (detN n P) (quoN n P b) (sn + sn) 0 mm nw) rfl ?hr ?hab ?F ?N ?hE ?st ?mono ?h2 ?h3
  (case hr => assumption)
  (case hab => omega)
  (case F => k_asm)
  (case N => k_asm)
  (case hE => first | passes_own | with_unfolding_all passes_own)
  case st =>
    (refine' SD.intro ?D1 ?D2 ?D3 ?D4 ?h0 ?h1 ?hd ?hg ?hr ?cA ?hb ?hq ?it; (case h0 => first | rfl | assumption); (case h1 => first | rfl | assumption); (case D1 => k_upd); (case D2 => k_upd); (case D3 => k_upd); (case D4 => k_upd); (case hd => with_reducible assumption); (case hg => assumption); (case hr => assumption); (case hb => kcj_all); (case hq => k_mem))
    case cA => exact trivial
    case it => exact Items.nil
  case mono => exact fun I nw ho hh => ⟨ho, hh⟩
  case h2 =>
    clear l2 l3 l4 l5
    intro I1 v0 m0 nw0 g1 g2 hJ0 it1 t1 h1 tk1 F1 N1
    (try k_fold)
    obtain ⟨oI, Df, Db, sb, ub, kb, fs, cf, oA, oG, oR, vA, rest, hfo, hbe, dA, dG, dR, cA, rfl, n1, n2, n3, b1, b2, b3, b4, hbs, hqb, hit⟩ := hJ0
    obtain ⟨w1, w2, w3, w4, w5⟩ := off4_of oI
    clear oI
    have gvn : v0.toNat < n := by omega
    have gv63 : v0 < 2 ^ 63 := by omega
    have hfl : fs.length = v0.toNat := hit.1
    replace hl := hbs _ hl
    replace hg := hbs _ hg
    k_steps
    refine Stop.mk ?_
    refine comp_range (KRowB n (augP P b v0.toNat) 2 rest) KRowB.mono (by rfl) (by k_asm) (by k_asm) (by assumption) (by omega) ?stepC ?finC
    case stepC =>
      intro ic ysc tlc hic itc apc tc Ic oIc Cc oCc Dc mC hC tkc Ec hCc hxc Fc Nc offc nec
      obtain ⟨r1, hr1, as1, c1, h1a, h1b, h1c⟩ := hrows ic hic
      obtain ⟨x1, xs1, xu1, xk1, hx1, hx2, hx3⟩ := hgall ic hic
      replace h1a := hbs _ h1a
      replace hx2 := hbs _ hx2
      replace hr1 : vs[((ic : Nat) : Int).toNat]? = some (.ref r1) := hr1
      replace hx1 : gs[((ic : Nat) : Int).toNat]? = some (.ref x1) := hx1
      have h0c : (0 : Int) ≤ (ic : Int) := by omega
      have h63 : (ic : Int) < 2 ^ 63 := by omega
      k_steps
      (iterate 6 (try ((try show (_ : Value → Shared → Prop) _ _); k_unfold; (try dsimp only))))
      exact ItemEnd.by (by k_asm) (by k_asm) (by assumption) (by kcj_all) ⟨_, rfl, put_row h1b (fun j hj => let ⟨a, s, u, k, e1, e2, e3⟩ := h1c j hj; ⟨a, s, u, k, e1, List.mem_append_right _ (hbs _ e2), e3⟩) gvn (List.mem_append_right _ hx2) hx3 (.head _)⟩
    case finC =>
    intro gc ysc tlc itc apc
    refine FinA.perm perm5d ?_
    have y1 := Away.all apc (a := L' + 1) (rest := rest) (by k_mem) (by k_all)
    have y2 := Away.all apc (a := L' + 1 + 1) (rest := rest) (by k_mem) (by k_all)
    have y3 := Away.all apc (a := L' + 1 + 1 + 1) (rest := rest) (by k_mem) (by k_all)
    have y4 := Away.all apc (a := Df) (rest := rest) (by k_mem) (by k_all)
    have y5 := Away.all apc (a := I1) (rest := rest) (by k_mem) (by k_all)
    k_steps
    refine Stop.mk ?_
    refine' Does.use (IH _ _ (augP P b v0.toNat) ?M) ?k1 ?k2 ?k3 ?k4 ?k5 ?kK ?kd ?ku ?ret
    (case k1 => k_asm)
    (case k2 => k_asm)
    (case k3 => k_asm)
    (case k4 => k_asm)
    (case k5 => k_asm)
    (case kK => first | exact rfl | assumption)
    (case kd => ktr_room)
    (case ku => ktr_units)
    case M => exact ⟨_, _, by k_mem, rowsB_of itc (by kcj_all) (by kcj_all)⟩
    case ret =>
    intro rq nq h3 tk3 F3 N3 hP
    (try k_fold)
    obtain ⟨Dr, sr, ur, kr, rfl, rfl, lr⟩ := hP
    have hqz : Sz sn (detN n (augP P b v0.toNat)) := hz _ (aug_sz hsz hbz)
    k_steps
    refine Stop.mk ?_
    refine' unrEnd_st (T := fun mm nw => SD L' lx lg news (fun _ => True) (detN n P) (quoN n P b) (sn + sn) (v0 + 1).toNat mm nw) ?F ?N ?d0 ?st ?mono ?off
    (case F => k_asm)
    (case N => k_asm)
    (case d0 => k_upd)
    case st =>
      (refine' SD.intro ?D1 ?D2 ?D3 ?D4 ?h0 ?h1 ?hd ?hg ?hr ?cA ?hb ?hq ?it; (case h0 => first | rfl | assumption); (case h1 => first | rfl | assumption); (case D1 => k_upd); (case D2 => k_upd); (case D3 => k_upd); (case D4 => k_upd); (case hd => with_reducible assumption); (case hg => assumption); (case hr => assumption); (case hb => kcj_all); (case hq => k_mem))
      case cA => exact trivial
      case it =>
        rw [toNat_s g1]
        exact Items.snoc KRat.mono hit (by kcj_all) (krat_of (q := detN n (augP P b v0.toNat) / detN n P) rfl (by k_mem) (by with_reducible assumption) (Nat.le_refl _))
    case mono => exact fun nw ho hh => ⟨ho, hh⟩
    case off => exact fun _ _ hh => hh.1
  case h3 =>
    intro I1 m1 nw1 hJ0
    refine TurnsC.zero ?_
    intro h2 tk2 F2 N2
    (try k_fold)
    obtain ⟨oI, Df, Db, sb, ub, kb, fs, cf, oA, oG, oR, vA, rest, hfo, hbe, dA, dG, dR, cA, rfl, n1, n2, n3, b1, b2, b3, b4, hbs, hqb, hit⟩ := hJ0
    clear oI
    k_steps
    refine' row_ret hret ?F ?N ?hs ?hD ?it
    (case F => k_asm)
    (case N => k_asm)
    (case hs => kcj_all)
    (case hD => k_mem)
    (case it => exact (show Items (KRat (quoN n P b) (sn + sn)) n fs rest from hit).sub KRat.mono (by kcj_all))
end Mine
end
section
open PySem PySem.W PyProof.Rows PySem.Calls PySem.Spec
set_option Elab.async false
set_option maxRecDepth 100000
set_option maxHeartbeats 8000000
namespace Mine
theorem wordsg25 : True := by
  k_with_none
  k_with "execs cons" => first | (k_here; k_gentoks) | ((with_reducible refine wpAny_execs_cons ?_); k_fold)
  k_with "k_mem" => ((repeat' (first | (with_reducible exact mq0) | ktr_member | (with_reducible exact mq1) | (with_reducible exact mq2) | (with_reducible exact mq3) | (with_reducible exact mq4) | (with_reducible exact mq5) | (with_reducible exact mq6) | (with_reducible exact mq7) | (with_reducible exact mq8) | (with_reducible exact mq9) | (with_reducible refine List.mem_append_right _ ?_) | (with_reducible refine mqt ?_))); done)
  k_with "mul_fits" => exact Fit.mul (by assumption) (by assumption)
  k_with "k_ne" => first | (with_reducible refine' neN ?oa_w11; (case oa_w11 => with_reducible assumption)) | (refine' ne_symN ?oa_w11; (case oa_w11 => with_reducible assumption)) | (refine' nsl1 ?oa_w11; (case oa_w11 => repeat' (first | exact Nat.le_refl _ | refine Nat.le_succ_of_le ?_))) | (refine' nsr1 ?oa_w11; (case oa_w11 => repeat' (first | exact Nat.le_refl _ | refine Nat.le_succ_of_le ?_))) | (refine' Ne3.ci ?oa_w11; (case oa_w11 => with_reducible assumption)) | (refine' Ne3.di ?oa_w11; (case oa_w11 => with_reducible assumption)) | (refine' Ne3.dc ?oa_w11; (case oa_w11 => with_reducible assumption)) | (refine' ne_lt ?oa_w11 ?ob_w11; (case oa_w11 => with_reducible assumption); (case ob_w11 => k_mem)) | (refine' ne_lt' ?oa_w11 ?ob_w11; (case oa_w11 => with_reducible assumption); (case ob_w11 => k_mem)) | (refine' ne_off1 ?oa_w11 ?ob_w11; (case oa_w11 => with_reducible assumption); (case ob_w11 => k_mem)) | (refine' ne_off1' ?oa_w11 ?ob_w11; (case oa_w11 => with_reducible assumption); (case ob_w11 => k_mem)) | (refine' ne_off3I ?oa_w11 ?ob_w11; (case oa_w11 => with_reducible assumption); (case ob_w11 => k_mem)) | (refine' ne_off3C ?oa_w11 ?ob_w11; (case oa_w11 => with_reducible assumption); (case ob_w11 => k_mem)) | (refine' ne_off3D ?oa_w11 ?ob_w11; (case oa_w11 => with_reducible assumption); (case ob_w11 => k_mem)) | (refine' ne_off3I' ?oa_w11 ?ob_w11; (case oa_w11 => with_reducible assumption); (case ob_w11 => k_mem)) | (refine' ne_off3C' ?oa_w11 ?ob_w11; (case oa_w11 => with_reducible assumption); (case ob_w11 => k_mem)) | (refine' ne_off3D' ?oa_w11 ?ob_w11; (case oa_w11 => with_reducible assumption); (case ob_w11 => k_mem)) | ((refine neN ?_); (try dsimp only); first | (with_reducible assumption) | (refine' ne_symN ?oa_w11; (case oa_w11 => with_reducible assumption)) | (refine' nsl1 ?oa_w11; (case oa_w11 => repeat' (first | exact Nat.le_refl _ | refine Nat.le_succ_of_le ?_))) | (refine' nsr1 ?oa_w11; (case oa_w11 => repeat' (first | exact Nat.le_refl _ | refine Nat.le_succ_of_le ?_))) | (refine' Ne3.ci ?oa_w11; (case oa_w11 => with_reducible assumption)) | (refine' Ne3.di ?oa_w11; (case oa_w11 => with_reducible assumption)) | (refine' Ne3.dc ?oa_w11; (case oa_w11 => with_reducible assumption)) | (refine' ne_lt ?oa_w11 ?ob_w11; (case oa_w11 => with_reducible assumption); (case ob_w11 => k_mem)) | (refine' ne_lt' ?oa_w11 ?ob_w11; (case oa_w11 => with_reducible assumption); (case ob_w11 => k_mem)) | (refine' ne_off1 ?oa_w11 ?ob_w11; (case oa_w11 => with_reducible assumption); (case ob_w11 => k_mem)) | (refine' ne_off1' ?oa_w11 ?ob_w11; (case oa_w11 => with_reducible assumption); (case ob_w11 => k_mem)) | (refine' ne_off3I ?oa_w11 ?ob_w11; (case oa_w11 => with_reducible assumption); (case ob_w11 => k_mem)) | (refine' ne_off3C ?oa_w11 ?ob_w11; (case oa_w11 => with_reducible assumption); (case ob_w11 => k_mem)) | (refine' ne_off3D ?oa_w11 ?ob_w11; (case oa_w11 => with_reducible assumption); (case ob_w11 => k_mem)) | (refine' ne_off3I' ?oa_w11 ?ob_w11; (case oa_w11 => with_reducible assumption); (case ob_w11 => k_mem)) | (refine' ne_off3C' ?oa_w11 ?ob_w11; (case oa_w11 => with_reducible assumption); (case ob_w11 => k_mem)) | (refine' ne_off3D' ?oa_w11 ?ob_w11; (case oa_w11 => with_reducible assumption); (case ob_w11 => k_mem)) | omega)
  k_with "k_all" => ((repeat' (first | (refine' ne_id ?oa_w12; (case oa_w12 => with_reducible assumption)) | (with_reducible refine' ne_cons ?_ ?_) | (with_reducible refine' List.forall_mem_cons.mpr ⟨?_, ?_⟩) | exact List.forall_mem_nil _ | (refine' ne_id ?oa_w12; (case oa_w12 => with_reducible assumption)) | (refine' tail_lt ?oa_w12 ?ob_w12; (case oa_w12 => with_reducible assumption); (case ob_w12 => kcj_all)) | (refine' tail_off1 ?oa_w12 ?ob_w12; (case oa_w12 => with_reducible assumption); (case ob_w12 => kcj_all)) | (refine' tail_off3I ?oa_w12 ?ob_w12; (case oa_w12 => with_reducible assumption); (case ob_w12 => kcj_all)) | (refine' tail_off3C ?oa_w12 ?ob_w12; (case oa_w12 => with_reducible assumption); (case ob_w12 => kcj_all)) | (refine' tail_off3D ?oa_w12 ?ob_w12; (case oa_w12 => with_reducible assumption); (case ob_w12 => kcj_all)) | (refine' ne_of_allLt_le ?oa_w12 ?ob_w12; (case oa_w12 => with_reducible assumption); (case ob_w12 => omega)) | k_ne)); done)
  k_with "k_upd" => ((repeat' (first | (with_reducible refine' Del.head ?_) | (with_reducible refine' Del.tail ?_ ?_) | (with_reducible refine' Upd.head ?_) | (with_reducible refine' Upd.tail ?_ ?_) | (with_reducible refine' UpdF.head ?_) | (with_reducible refine' UpdF.tail ?_ ?_) | (with_reducible refine' Del.appA (by with_reducible assumption) ?_) | (with_reducible refine' Upd.app (by with_reducible assumption) ?_) | k_all | k_ne)); done)
  k_with "kcj_all" => ((repeat' (first | (with_reducible exact mem_same) | exact List.forall_mem_nil _ | (with_reducible refine' sub_cons ?_ ?_) | (with_reducible refine' List.forall_mem_cons.mpr ⟨?_, ?_⟩) | (with_reducible exact mem_appl) | (with_reducible refine' mem_step ?_) | (with_reducible refine' mem_apps ?_ ?_) | (with_reducible refine' mem_app ?_) | k_mem)); done)
  k_with "exec For Name Name cons nil" => (k_here; (rename Fr _ _ _ _ => lF'_w21); (with_unfolding_all refine' For_invVF lF'_w21 ?k1_w21 ?k2_w21 ?_; (case k1_w21 => exact rfl); (case k2_w21 => exact rfl); k_whole); l_hasStore)
  k_with "pyIter ref" => ((with_reducible show wpAny _ _ (pyIter (Value.ref _)) (fun it s₂ => LoopAtV _ _ _ _ _ _ _ _ _ it s₂) _ _); (rename Fr _ _ _ _ => lF'_w22); (rename News _ _ _ _ => lN'_w22); (with_unfolding_all refine' iter_listUnr ?hh_w22 lF'_w22 lN'_w22 ?hm_w22 ?hc_w22 ?hd_w22 ?_; (case hh_w22 => exact rfl); (case hm_w22 => k_mem); (case hc_w22 => exact rfl); (case hd_w22 => exact rfl)); clear lF'_w22 lN'_w22; intro i'_w22 l1_w22; (have l1'_w22 := allLt_of l1_w22); clear l1_w22)
  k_with "UnrEnd" => (k_here; k_dflt (refine' unr_end ?F_w23 ?N_w23 ?D_w23 ?_; (case F_w23 => k_asm); (case N_w23 => k_asm); (case D_w23 => k_upd)); (try (refine ⟨by k_mem, ?_⟩)))
  k_with "FinE" => ((unfold LCg.FinE); intro D'_w38 h'_w38 tk'_w38 F'_w38 N'_w38 o1'_w38; (try simp only [List.nil_append, List.cons_append] at N'_w38); (try dsimp only))
  k_with "FinA" => ((unfold LCg.FinA); intro D'_w39 h'_w39 tk'_w39 F'_w39 N'_w39 o1'_w39; (try simp only [List.nil_append, List.cons_append] at N'_w39); (try dsimp only))
  k_with "UnrEnd" => (k_here; k_dflt (refine' unr_keep (o := tup2 _ _ _ _ _) ?F_w40 ?N_w40 ?hs_w40 ?K_w40 ?h1_w40 ?off_w40 ?_; (case F_w40 => k_asm); (case N_w40 => k_asm); (case hs_w40 => ((repeat' (first | (with_reducible exact mem_same) | (with_reducible exact mem_appl) | (with_reducible refine' mem_step ?_) | (with_reducible refine' mem_apps ?_ ?_) | (with_reducible refine' mem_app ?_))); done)); (case K_w40 => k_mem); (case h1_w40 => k_ne); (case off_w40 => k_all)); (try (refine ⟨by k_mem, ?_⟩)))
  k_with "call ref" => (k_here; (with_reducible show wpAny _ _ (call (Value.ref 74) _) _ _ _); k_dflt (refine' sum_use ?k1_w15 ?k2_w15 ?k3_w15 ?k4_w15 ?k5_w15 ?kK_w15 ?kd_w15 ?ku_w15 ?g_w15 ?hx_w15 ?hy_w15 ?i1_w15 ?i2_w15 ?i3_w15 ?i4_w15 ?hp_w15 ?hq_w15 ?hs_w15 ?_; (case k1_w15 => k_asm); (case k2_w15 => k_asm); (case k3_w15 => k_asm); (case k4_w15 => k_asm); (case k5_w15 => k_asm); (case kK_w15 => first | exact rfl | assumption); (case kd_w15 => ktr_room); (case ku_w15 => ktr_units); (case g_w15 => assumption); (case hx_w15 => k_mem); (case hy_w15 => k_mem); (case i1_w15 => first | exact rfl | exact num0 | exact num1); (case i2_w15 => first | exact rfl | exact den0 | exact den1); (case i3_w15 => first | exact rfl | exact num0 | exact num1); (case i4_w15 => first | exact rfl | exact den0 | exact den1); (case hp_w15 => first | (with_reducible assumption) | exact Sz.zero | exact Sz.one); (case hq_w15 => first | (with_reducible assumption) | exact Sz.zero | exact Sz.one); (case hs_w15 => omega); k_whole); intro D'_w15 u1'_w15 u2'_w15 c'_w15 h'_w15 tk'_w15 F'_w15 N'_w15 l1'_w15 sz'_w15; (try dsimp only); (try k_fold))
  k_with "call ref" => (k_here; (with_reducible show wpAny _ _ (call (Value.ref 81) _) _ _ _); k_dflt (refine' diff_use ?k1_w16 ?k2_w16 ?k3_w16 ?k4_w16 ?k5_w16 ?kK_w16 ?kd_w16 ?ku_w16 ?g_w16 ?hx_w16 ?hy_w16 ?i1_w16 ?i2_w16 ?i3_w16 ?i4_w16 ?hp_w16 ?hq_w16 ?hs_w16 ?_; (case k1_w16 => k_asm); (case k2_w16 => k_asm); (case k3_w16 => k_asm); (case k4_w16 => k_asm); (case k5_w16 => k_asm); (case kK_w16 => first | exact rfl | assumption); (case kd_w16 => ktr_room); (case ku_w16 => ktr_units); (case g_w16 => assumption); (case hx_w16 => k_mem); (case hy_w16 => k_mem); (case i1_w16 => first | exact rfl | exact num0 | exact num1); (case i2_w16 => first | exact rfl | exact den0 | exact den1); (case i3_w16 => first | exact rfl | exact num0 | exact num1); (case i4_w16 => first | exact rfl | exact den0 | exact den1); (case hp_w16 => first | (with_reducible assumption) | exact Sz.zero | exact Sz.one); (case hq_w16 => first | (with_reducible assumption) | exact Sz.zero | exact Sz.one); (case hs_w16 => omega); k_whole); intro D'_w16 u1'_w16 u2'_w16 c'_w16 h'_w16 tk'_w16 F'_w16 N'_w16 l1'_w16 sz'_w16; (try dsimp only); (try k_fold))
  k_with "call ref" => (k_here; (with_reducible show wpAny _ _ (call (Value.ref 88) _) _ _ _); k_dflt (refine' prod_use ?k1_w17 ?k2_w17 ?k3_w17 ?k4_w17 ?k5_w17 ?kK_w17 ?kd_w17 ?ku_w17 ?g_w17 ?hx_w17 ?hy_w17 ?i1_w17 ?i2_w17 ?i3_w17 ?i4_w17 ?hp_w17 ?hq_w17 ?hs_w17 ?_; (case k1_w17 => k_asm); (case k2_w17 => k_asm); (case k3_w17 => k_asm); (case k4_w17 => k_asm); (case k5_w17 => k_asm); (case kK_w17 => first | exact rfl | assumption); (case kd_w17 => ktr_room); (case ku_w17 => ktr_units); (case g_w17 => assumption); (case hx_w17 => k_mem); (case hy_w17 => k_mem); (case i1_w17 => first | exact rfl | exact num0 | exact num1); (case i2_w17 => first | exact rfl | exact den0 | exact den1); (case i3_w17 => first | exact rfl | exact num0 | exact num1); (case i4_w17 => first | exact rfl | exact den0 | exact den1); (case hp_w17 => first | (with_reducible assumption) | exact Sz.zero | exact Sz.one); (case hq_w17 => first | (with_reducible assumption) | exact Sz.zero | exact Sz.one); (case hs_w17 => omega); k_whole); intro D'_w17 u1'_w17 u2'_w17 c'_w17 h'_w17 tk'_w17 F'_w17 N'_w17 l1'_w17 sz'_w17; (try dsimp only); (try k_fold))
  k_with "call ref" => (k_here; (with_reducible show wpAny _ _ (call (Value.ref 95) _) _ _ _); k_dflt (refine' quot_use ?k1_w18 ?k2_w18 ?k3_w18 ?k4_w18 ?k5_w18 ?kK_w18 ?kd_w18 ?ku_w18 ?g_w18 ?hx_w18 ?hy_w18 ?i1_w18 ?i2_w18 ?i3_w18 ?i4_w18 ?hp_w18 ?hq_w18 ?hs_w18 ?hn_w18 ?_; (case k1_w18 => k_asm); (case k2_w18 => k_asm); (case k3_w18 => k_asm); (case k4_w18 => k_asm); (case k5_w18 => k_asm); (case kK_w18 => first | exact rfl | assumption); (case kd_w18 => ktr_room); (case ku_w18 => ktr_units); (case g_w18 => assumption); (case hx_w18 => k_mem); (case hy_w18 => k_mem); (case i1_w18 => first | exact rfl | exact num0 | exact num1); (case i2_w18 => first | exact rfl | exact den0 | exact den1); (case i3_w18 => first | exact rfl | exact num0 | exact num1); (case i4_w18 => first | exact rfl | exact den0 | exact den1); (case hp_w18 => first | (with_reducible assumption) | exact Sz.zero | exact Sz.one); (case hq_w18 => first | (with_reducible assumption) | exact Sz.zero | exact Sz.one); (case hs_w18 => omega); (case hn_w18 => assumption); k_whole); intro D'_w18 u1'_w18 u2'_w18 c'_w18 h'_w18 tk'_w18 F'_w18 N'_w18 l1'_w18 sz'_w18; (try dsimp only); (try k_fold))
  k_with "call ref" => (k_here; (with_reducible show wpAny _ _ (call (Value.ref 102) _) _ _ _); k_dflt (refine' neg_use ?k1_w19 ?k2_w19 ?k3_w19 ?k4_w19 ?k5_w19 ?kK_w19 ?kd_w19 ?ku_w19 ?hx_w19 ?i1_w19 ?i2_w19 ?hp_w19 ?_; (case k1_w19 => k_asm); (case k2_w19 => k_asm); (case k3_w19 => k_asm); (case k4_w19 => k_asm); (case k5_w19 => k_asm); (case kK_w19 => first | exact rfl | assumption); (case kd_w19 => ktr_room); (case ku_w19 => ktr_units); (case hx_w19 => k_mem); (case i1_w19 => first | exact rfl | exact num0 | exact num1); (case i2_w19 => first | exact rfl | exact den0 | exact den1); (case hp_w19 => first | (with_reducible assumption) | exact Sz.zero | exact Sz.one); k_whole); intro D'_w19 u1'_w19 u2'_w19 c'_w19 h'_w19 tk'_w19 F'_w19 N'_w19 l1'_w19 sz'_w19; (try dsimp only); (try k_fold))
  k_with "call ref" => (k_here; (with_reducible show wpAny _ _ (call (Value.ref 116) _) _ _ _); k_dflt (refine' order_use ?k1_w20 ?k2_w20 ?k3_w20 ?k4_w20 ?k5_w20 ?kK_w20 ?kd_w20 ?ku_w20 ?hx_w20 ?hy_w20 ?i1_w20 ?i2_w20 ?i3_w20 ?i4_w20 ?hp_w20 ?hq_w20 ?hs_w20 ?_; (case k1_w20 => k_asm); (case k2_w20 => k_asm); (case k3_w20 => k_asm); (case k4_w20 => k_asm); (case k5_w20 => k_asm); (case kK_w20 => first | exact rfl | assumption); (case kd_w20 => ktr_room); (case ku_w20 => ktr_units); (case hx_w20 => k_mem); (case hy_w20 => k_mem); (case i1_w20 => first | exact rfl | exact num0 | exact num1); (case i2_w20 => first | exact rfl | exact den0 | exact den1); (case i3_w20 => first | exact rfl | exact num0 | exact num1); (case i4_w20 => first | exact rfl | exact den0 | exact den1); (case hp_w20 => first | (with_reducible assumption) | exact Sz.zero | exact Sz.one); (case hq_w20 => first | (with_reducible assumption) | exact Sz.zero | exact Sz.one); (case hs_w20 => omega); k_whole); intro u'_w20 h'_w20 tk'_w20 F'_w20 N'_w20; (try dsimp only); (try k_fold))
  k_with "subscriptTail" => (k_here; (with_reducible show wpAny _ _ (subscriptTail _ _ (Value.ref _) (Value.int _ _)) _ _ _); k_dflt (refine' item_led ?N_w66 ?m_w66 ?a_w66 ?b_w66 ?x_w66 ?_; (case N_w66 => k_asm); (case m_w66 => k_mem); (case a_w66 => first | (with_reducible assumption) | decide); (case b_w66 => first | (with_reducible assumption) | decide); (case x_w66 => first | (with_reducible assumption) | exact rfl); k_whole))
  k_with "subscriptTail Name" => (k_here; (with_reducible show wpAny _ _ (subscriptTail _ _ (Value.ref _) (Value.int _ _)) _ _ _); k_dflt (refine' item_led ?N_w67 ?m_w67 ?a_w67 ?b_w67 ?x_w67 ?_; (case N_w67 => k_asm); (case m_w67 => k_mem); (case a_w67 => first | (with_reducible assumption) | decide); (case b_w67 => first | (with_reducible assumption) | decide); (case x_w67 => first | (with_reducible assumption) | exact rfl); k_whole))
  k_with "subscriptTail Name Constant ref int" => (k_here; (with_reducible show wpAny _ _ (subscriptTail _ _ (Value.ref _) (Value.int _ _)) _ _ _); k_dflt (refine' item_led ?N_w68 ?m_w68 ?a_w68 ?b_w68 ?x_w68 ?_; (case N_w68 => k_asm); (case m_w68 => k_mem); (case a_w68 => first | (with_reducible assumption) | decide); (case b_w68 => first | (with_reducible assumption) | decide); (case x_w68 => first | (with_reducible assumption) | exact rfl); k_whole))
  k_with "subscriptTail Name Name ref int" => (k_here; (with_reducible show wpAny _ _ (subscriptTail _ _ (Value.ref _) (Value.int _ _)) _ _ _); k_dflt (refine' item_led ?N_w69 ?m_w69 ?a_w69 ?b_w69 ?x_w69 ?_; (case N_w69 => k_asm); (case m_w69 => k_mem); (case a_w69 => first | (with_reducible assumption) | decide); (case b_w69 => first | (with_reducible assumption) | decide); (case x_w69 => first | (with_reducible assumption) | exact rfl); k_whole))
  k_with "subscriptTail Subscript Name Constant Name ref int" => (k_here; (with_reducible show wpAny _ _ (subscriptTail _ _ (Value.ref _) (Value.int _ _)) _ _ _); k_dflt (refine' item_led ?N_w70 ?m_w70 ?a_w70 ?b_w70 ?x_w70 ?_; (case N_w70 => k_asm); (case m_w70 => k_mem); (case a_w70 => first | (with_reducible assumption) | decide); (case b_w70 => first | (with_reducible assumption) | decide); (case x_w70 => first | (with_reducible assumption) | exact rfl); k_whole))
  k_with "subscriptTail Subscript Name Constant Constant ref int" => (k_here; (with_reducible show wpAny _ _ (subscriptTail _ _ (Value.ref _) (Value.int _ _)) _ _ _); k_dflt (refine' item_led ?N_w71 ?m_w71 ?a_w71 ?b_w71 ?x_w71 ?_; (case N_w71 => k_asm); (case m_w71 => k_mem); (case a_w71 => first | (with_reducible assumption) | decide); (case b_w71 => first | (with_reducible assumption) | decide); (case x_w71 => first | (with_reducible assumption) | exact rfl); k_whole))
  k_with "subscriptTail Subscript Name Name Name ref int" => (k_here; (with_reducible show wpAny _ _ (subscriptTail _ _ (Value.ref _) (Value.int _ _)) _ _ _); k_dflt (refine' item_led ?N_w72 ?m_w72 ?a_w72 ?b_w72 ?x_w72 ?_; (case N_w72 => k_asm); (case m_w72 => k_mem); (case a_w72 => first | (with_reducible assumption) | decide); (case b_w72 => first | (with_reducible assumption) | decide); (case x_w72 => first | (with_reducible assumption) | exact rfl); k_whole))
  k_with "subscriptTail Subscript Name Name Constant ref int" => (k_here; (with_reducible show wpAny _ _ (subscriptTail _ _ (Value.ref _) (Value.int _ _)) _ _ _); k_dflt (refine' item_led ?N_w73 ?m_w73 ?a_w73 ?b_w73 ?x_w73 ?_; (case N_w73 => k_asm); (case m_w73 => k_mem); (case a_w73 => first | (with_reducible assumption) | decide); (case b_w73 => first | (with_reducible assumption) | decide); (case x_w73 => first | (with_reducible assumption) | exact rfl); k_whole))
  k_with "getItem ref int" => (k_here; (with_reducible show wpAny _ _ (getItem (Value.ref _) (Value.int _ _)) _ _ _); k_dflt (refine' getItem_led ?N_w74 ?m_w74 ?a_w74 ?b_w74 ?x_w74 ?_; (case N_w74 => k_asm); (case m_w74 => k_mem); (case a_w74 => first | (with_reducible assumption) | decide); (case b_w74 => first | (with_reducible assumption) | decide); (case x_w74 => first | (with_reducible assumption) | exact rfl); k_whole))
  k_with "callWith builtin:list.append cons nil" => refine callWith_method1 ?_
  k_with "callWith builtin:len nil nil" => refine callWith_builtin1 ?_
  k_with "callWith builtin:len cons nil" => refine callWith_builtin1 ?_
  k_with "exec Assign cons ListComp" => (k_here; k_dflt (refine LCg.Assign_ListComp_U (F₀ := by k_asm) (by rfl) (by with_unfolding_all rfl) (by with_unfolding_all rfl) (by decide) (by rfl) (by decide) (by rfl) (by rfl) (by rfl) ?_))
  k_with "call builtin:list.append cons nil" => (k_here; k_dflt (refine' append_K ?k1_w46 ?k2_w46 ?k3_w46 ?_ ?z_w46; (case k1_w46 => k_asm); (case k2_w46 => k_asm); (case k3_w46 => k_upd); (case z_w46 => size_fits); k_whole); intro h'_w46 F'_w46 N'_w46; (try k_sweep))
  k_with "eval Name" => (k_here; (with_reducible show wpAny _ _ (eval (PySem.Expr.Name _ _) (envOfC _ _ _ _ _)) _ _ _); k_dflt (first | (refine' nameX_L ?F_w47 ?v_w47 ?_ ?a_w47 ?b_w47; (case a_w47 => rfl); (case b_w47 => rfl); (case F_w47 => k_asm); (case v_w47 => rfl); k_whole) | (refine' nameX_C ?N_w47 ?c_w47 ?m_w47 ?d_w47 ?_ ?a_w47 ?b_w47; (case a_w47 => rfl); (case b_w47 => rfl); (case N_w47 => k_asm); (case c_w47 => rfl); (case m_w47 => k_mem); (case d_w47 => with_reducible assumption); k_whole) | (refine' nameX_K ?F_w47 ?X_w47 ?T_w47 ?e_w47 ?_ ?a_w47 ?b_w47; (case a_w47 => rfl); (case b_w47 => rfl); (case F_w47 => k_asm); (case X_w47 => k_asm); (case T_w47 => k_asm); (case e_w47 => k_is); k_whole)))
  k_with "eval Name" => (k_here; (with_reducible show wpAny _ _ (eval (PySem.Expr.Name _ _) (envOfC _ _ _ _ _)) _ _ _); k_dflt (first | (refine' nameX_L ?F_w75 ?v_w75 ?_ ?a_w75 ?b_w75; (case a_w75 => rfl); (case b_w75 => rfl); (case F_w75 => k_asm); (case v_w75 => first | rfl | assumption); k_whole) | (refine' nameX_C ?N_w75 ?c_w75 ?m_w75 ?d_w75 ?_ ?a_w75 ?b_w75; (case a_w75 => rfl); (case b_w75 => rfl); (case N_w75 => k_asm); (case c_w75 => rfl); (case m_w75 => k_mem); (case d_w75 => with_reducible assumption); k_whole) | (refine' nameX_K ?F_w75 ?X_w75 ?T_w75 ?e_w75 ?_ ?a_w75 ?b_w75; (case a_w75 => rfl); (case b_w75 => rfl); (case F_w75 => k_asm); (case X_w75 => k_asm); (case T_w75 => k_asm); (case e_w75 => k_is); k_whole)))
  k_with "call builtin:len" => (k_here; (with_reducible show wpAny _ _ (call (Value.builtin "len") [Value.ref _]) _ _ _); k_dflt (refine' len_led ?k1_w76 ?k2_w76 ?k3_w76 ?k4_w76 ?_; (case k1_w76 => k_asm); (case k2_w76 => k_mem); (case k3_w76 => first | (with_reducible assumption) | (refine' len_set ?z_w76; (case z_w76 => with_reducible assumption))); (case k4_w76 => omega); k_whole); (try dsimp only))
  k_with "compareOp Eq ref ref" => (k_here; (with_reducible show wpAny _ _ (compareOp CmpOp.Eq (Value.ref _) (Value.ref _)) _ _ _); k_dflt (refine' eq_rats ?N_w77 ?ha_w77 ?hb_w77 ?i1_w77 ?i2_w77 ?i3_w77 ?i4_w77 ?hu_w77 ?_; (case N_w77 => k_asm); (case ha_w77 => k_mem); (case hb_w77 => k_mem); (case i1_w77 => first | exact rfl | exact num0 | exact num1); (case i2_w77 => first | exact rfl | exact den0 | exact den1); (case i3_w77 => first | exact rfl | exact num0 | exact num1); (case i4_w77 => first | exact rfl | exact den0 | exact den1); (case hu_w77 => first | ktr_units | units_room | omega); k_whole))
  k_with "compareOp NotEq ref ref" => (k_here; (with_reducible show wpAny _ _ (compareOp CmpOp.NotEq (Value.ref _) (Value.ref _)) _ _ _); k_dflt (refine' ne_rats ?N_w78 ?ha_w78 ?hb_w78 ?i1_w78 ?i2_w78 ?i3_w78 ?i4_w78 ?hu_w78 ?_; (case N_w78 => k_asm); (case ha_w78 => k_mem); (case hb_w78 => k_mem); (case i1_w78 => first | exact rfl | exact num0 | exact num1); (case i2_w78 => first | exact rfl | exact den0 | exact den1); (case i3_w78 => first | exact rfl | exact num0 | exact num1); (case i4_w78 => first | exact rfl | exact den0 | exact den1); (case hu_w78 => first | ktr_units | units_room | omega); k_whole))
  k_with "setItem ref int ref" => (k_here; k_dflt (refine' set_any ?k1_w79 ?k2_w79 ?k3_w79 ?k4_w79 ?k5_w79 ?k6_w79 ?_; (case k1_w79 => k_asm); (case k2_w79 => k_asm); (case k6_w79 => k_upd); (case k3_w79 => with_reducible assumption); (case k4_w79 => with_reducible assumption); (case k5_w79 => (try simp only [List.length_set]); omega); k_whole); intro h'_w79 F'_w79 N'_w79; (try k_sweep))
  k_with "exec Assign cons ListComp" => (k_here; k_dflt (first | (refine LCg.Assign_ListComp_U (F₀ := by k_asm) (by rfl) (by with_unfolding_all rfl) (by with_unfolding_all rfl) (by decide) (by rfl) (by decide) (by rfl) (by rfl) (by rfl) ?_) | ((with_reducible refine wpAny_Assign_Name ?_ ?_); rotate_left; (with_unfolding_all rfl))))
  k_with "call ref" => (k_here; (with_reducible show wpAny _ _ (call (Value.ref 155) _) _ _ _); k_dflt (refine' size_use ?k1_w80 ?k2_w80 ?k3_w80 ?k4_w80 ?k5_w80 ?kK_w80 ?kd_w80 ?ku_w80 ?hx_w80 ?hp_w80 ?hs_w80 ?_; (case k1_w80 => k_asm); (case k2_w80 => k_asm); (case k3_w80 => k_asm); (case k4_w80 => k_asm); (case k5_w80 => k_asm); (case kK_w80 => first | exact rfl | assumption); (case kd_w80 => ktr_room); (case ku_w80 => ktr_units); (case hx_w80 => k_mem); (case hp_w80 => with_reducible assumption); (case hs_w80 => omega); k_whole); intro D'_w80 u1'_w80 u2'_w80 c'_w80 h'_w80 tk'_w80 F'_w80 N'_w80 sz'_w80; (try dsimp only); (try k_fold))
  k_with "kcj_all" => ((repeat' (first | (with_reducible assumption) | (with_reducible exact mem_same) | exact List.forall_mem_nil _ | (with_reducible refine' sub_cons ?_ ?_) | (with_reducible refine' List.forall_mem_cons.mpr ⟨?_, ?_⟩) | (with_reducible exact mem_appl) | (with_reducible refine' mem_step ?_) | (with_reducible refine' mem_apps ?_ ?_) | (with_reducible refine' mem_app ?_) | k_mem)); done)
  k_with "exec Assign cons ListComp" => (with_reducible refine wpAny_Assign_Subscript ?_ ?_; rotate_left; with_unfolding_all rfl)
  k_with "execs cons For cons" => (refine Stop.out ?_)
  k_with "execs cons If cons" => (refine Stop.out ?_)
  k_with "exec For Name Call cons nil" => (k_here; k_dflt (refine For_C ?_))
  k_with "pyIter ref" => ((with_reducible show wpAny _ _ (pyIter (Value.ref _)) (LoopC _ _ _ _ _ _ _ _ _) _ _); (refine Stop.out ?_))
  k_with "UnrEnd" => (refine Stop.out ?_)
  k_with "call type:list" => (k_here; (with_reducible show wpAny _ _ (call (Value.type _) [Value.ref _]) _ _ _); k_dflt (refine' list_led ?F_g1 ?N_g1 ?b_g1 ?e_g1 ?z_g1 ?_; (case F_g1 => k_asm); (case N_g1 => k_asm); (case b_g1 => k_mem); (case e_g1 => with_reducible assumption); (case z_g1 => omega)); intro D_g1 c_g1 h_g1 F_g1 N_g1 l1_g1; (replace l1_g1 := allLt_of l1_g1); (try k_sweep))
  k_with "CompSrc" => (refine Stop.out ?_)
  trivial
theorem taken_does (w : World) (mean : ExcName → Option Value) (mg mb : Str → Option Value) (G : Great mg) (rn rm : Nat) (hn : rn ≤ 3) (hnm : rn ≤ rm) (hrm : rm ≤ 4) (Sh : Nat → (Nat → Nat → Rat) → Rat → Prop) (M : Nat → Nat → Rat) (hsh0 : Sh 0 M 1)
    (hsw : ∀ a ld P f, a < rn → a < ld → ld < rn → Sh a P f → Sh a (swapP P a ld) (-f)) (hel : ∀ a P f, a < rn → Sh a P f → P a a ≠ 0 → Sh (a + 1) (elimP P a rn) (f * P a a)) (news : List (Addr × Obj)) (lx : Addr) (cx : Nat) (vs0 : List Value) (hxl : (lx, listObj vs0 cx) ∈ news) (hrows0 : RowsAt rn rm news vs0 M (fun _ => 2)) :
    Does w mean mg mb 16 160 news [.ref lx] (TakenPost Sh rn rm news) := by
  intro dp un gd cn cs a ccd cl outer A₀ base h₀ L m s Q E B F X N T hk hd hu hret
  refine wpAny_call ?_
  k_dflt (refine' code_defC (binds := [(PySem.Str.ofString "rows", .ref lx)]) ?k1 ?k2 ?k3 ?k4 ?k5 ?kA ?kF ?kK ?k6 ?k7 ?k8 ?k9 ?kB ?kD ?_ ?c2 ?c3 ?c4; (case kA => exact rfl); (case kF => exact rfl); (case kK => assumption); (case k1 => k_asm); (case k2 => k_asm); (case k3 => k_asm); (case k4 => k_asm); (case k5 => k_asm); (case k6 => k_is); (case k7 => k_is); (case k8 => ktr_room); (case k9 => exact BindsTo.of_eq rfl); (case kB => exact rfl); (case kD => decide +kernel); (case c2 => exact rfl); (case c3 => exact rfl); (case c4 => exact rfl); k_whole)
  intro g' L' h' tk' cells' FG' F' N' Y' B' X' T' l1
  have l2 := allLt_of l1
  have l3 : AllLt (L' + 1) _ := AllLt.mono l2 (Nat.le_succ _)
  have l4 : AllLt (L' + 1 + 1) _ := AllLt.mono l3 (Nat.le_succ _)
  k_cells Y'
  (try simp only [List.cons_append, List.nil_append] at N')
  (try dsimp only)
  (try k_fold)
  have l5 : AllLt (L' + 1 + 1 + 1) _ := AllLt.mono l4 (Nat.le_succ _)
  have l6 : AllLt (L' + 1 + 1 + 1 + 1) _ := AllLt.mono l5 (Nat.le_succ _)
  k_steps
  refine Stop.mk ?_
  refine comp_list (KRowB rm M 2 news) KRowB.mono (by rfl) (by k_asm) (by k_asm) (by k_mem) hrows0.1 (by omega) ?stepA ?finA
  case stepA =>
    intro ia ysa tla hia ita apa va Ia oIa Ca oCa Da ma ha tka Ea hva hCa hxa Fa Na offa nea
    obtain ⟨ra, hra, asa, ca, h1a, h2a, h3a⟩ := hrows0.2 ia hia
    obtain rfl : va = .ref ra := Option.some.inj (hva.symm.trans hra)
    k_steps
    (iterate 6 (try ((try show (_ : Value → Shared → Prop) _ _); k_unfold; (try dsimp only))))
    exact ItemEnd.one (by k_asm) (by k_asm) (by assumption) ⟨_, rfl, asa, _, .head _, h2a, fun j hj => let ⟨a, s, u, k, e1, e2, e3⟩ := h3a j hj; ⟨a, s, u, k, e1, List.mem_append_right _ e2, e3⟩⟩
  case finA =>
  intro ga ysa tla ita apa
  refine FinE.perm perm4 ?_
  have hla : ysa.length = rn := ita.1
  have z1 := Away.all apa (a := L' + 1) (rest := news) (by k_mem) (by k_all)
  have z2 := Away.all apa (a := L' + 1 + 1) (rest := news) (by k_mem) (by k_all)
  have z3 := Away.all apa (a := L' + 1 + 1 + 1) (rest := news) (by k_mem) (by k_all)
  have z4 := Away.all apa (a := L' + 1 + 1 + 1 + 1) (rest := news) (by k_mem) (by k_all)
  k_steps
  refine Stop.mk (wpAny_execs_cons ?_)
  (try k_fold)
  k_steps
  refine Stop.mk ?_
  refine' iter_st (J := (fun I v mm nw => LCg.Off1 I nw ∧ ∃ P f, Sh v.toNat P f ∧ St rn rm L' news (fun _ => True) P (fun _ => eN v.toNat) f (eN v.toNat) mm nw)) (T := fun mm nw => St rn rm L' news (fun _ => True) M (fun _ => 2) 1 2 mm nw) rfl ?hr ?hab ?F ?N ?hE ?st ?mono ?h2 ?h3x6
  (case hr => assumption)
  (case hab => omega)
  (case F => k_asm)
  (case N => k_asm)
  (case hE => first | passes_own | with_unfolding_all passes_own)
  case st =>
    (refine' St.intro ?dM ?dP ?dA ?dR ?D1 ?D2 ?D3 ?D4 ?D5 ?hf ?hF ?i1 ?i2 ?hb ?hz ?hl ?cA ?hR; (case D1 => k_upd); (case D2 => k_upd); (case D3 => k_upd); (case D4 => k_upd); (case dR => with_reducible assumption); (case D5 => k_upd); (case dM => with_reducible assumption); (case dP => with_reducible assumption); (case dA => with_reducible assumption); (case hf => first | rfl | assumption); (case hF => k_mem); (case i1 => first | exact rfl | exact num1); (case i2 => first | exact rfl | exact den1); (case hb => kcj_all); (case hz => first | (with_reducible assumption) | exact Sz.one); (case hl => first | exact Nat.le_refl _ | omega))
    case cA => exact trivial
    case hR => exact rowsB_of ita (by kcj_all) (by kcj_all)
  case mono => exact fun I nw ho hh => ⟨ho, M, 1, hsh0, hh⟩
  case h2 =>
    clear l2 l3 l4 l5 l6
    intro I1 v0 m0 nw0 g1 g2 hJ0 it1 t1 h1 tk1 F1 N1
    (try k_fold)
    obtain ⟨oI, P, f, sh, R, vs, cR, rest, Fd, sf, uf, kf, oM, oP, oA, oR, vM, vP, vA, hf, dM, dP, dA, dR, cA, rfl, ⟨n1, n2, n3, n4, n5, n6, n7, n8, b1, b2, b3, b4, b5⟩, hb, hF, zf, hrows⟩ := hJ0
    obtain ⟨w1, w2, w3, w4, w5, w6, w7, w8, w9, w10, w11⟩ := offI_of oI
    clear oI
    have hvl := hrows.1
    have gvn : v0.toNat < rn := by omega
    have gv63 : v0 < 2 ^ 63 := by omega
    have ge : eN v0.toNat ≤ 79 := eN_le (by omega)
    (try k_fold)
    k_steps
    refine Stop.mk (execs_cut (MidS { s with heap := h1, toks := tk1 } g' L' I1 it1 (fun mm nw => LCg.Off1 I1 nw ∧ (∃ ld t, mm (PySem.Str.ofString "lead") = some (.int ld t) ∧ v0 ≤ ld ∧ ld < (rn : Int) ∧ (∀ i : Nat, v0.toNat ≤ i → i < rn → P ld.toNat v0.toNat = 0 → P i v0.toNat = 0)) ∧ St rn rm L' news (fun v => ∃ t, v = some (.int v0 t)) P (fun _ => eN v0.toNat) f (eN v0.toNat) mm nw)) ?_ ?_)
    · k_steps
      refine Stop.mk ?_
      refine' iter_st (J := (fun I2 k mm nw => LCg.Off1 I2 nw ∧ ∃ nw0, nw = (I1, it1) :: nw0 ∧ LCg.Off1 I1 nw0 ∧ (∃ ld t, mm (PySem.Str.ofString "lead") = some (.int ld t) ∧ v0 ≤ ld ∧ ld < (rn : Int) ∧ (∀ i : Nat, v0.toNat ≤ i → i < k.toNat → P ld.toNat v0.toNat = 0 → P i v0.toNat = 0)) ∧ St rn rm L' news (fun v => ∃ t, v = some (.int v0 t)) P (fun _ => eN v0.toNat) f (eN v0.toNat) mm nw0)) (T := fun mm nw => ∃ nw0, nw = (I1, it1) :: nw0 ∧ LCg.Off1 I1 nw0 ∧ St rn rm L' news (fun v => ∃ t, v = some (.int v0 t)) P (fun _ => eN v0.toNat) f (eN v0.toNat) mm nw0) rfl ?hr ?hab ?F ?N ?hE ?st ?mono ?h2 ?h3x5
      (case hr => assumption)
      (case hab => omega)
      (case F => k_asm)
      (case N => k_asm)
      (case hE => first | passes_own | with_unfolding_all passes_own)
      case st =>
        refine' with_iter ?d1 ?st2
        (case d1 => k_upd)
        case st2 =>
          (refine' St.intro ?dM ?dP ?dA ?dR ?D1 ?D2 ?D3 ?D4 ?D5 ?hf ?hF ?i1 ?i2 ?hb ?hz ?hl ?cA ?hR; (case D1 => k_upd); (case D2 => k_upd); (case D3 => k_upd); (case D4 => k_upd); (case dR => with_reducible assumption); (case D5 => k_upd); (case dM => with_reducible assumption); (case dP => with_reducible assumption); (case dA => with_reducible assumption); (case hf => first | rfl | assumption); (case hF => k_mem); (case i1 => first | exact rfl | exact num1); (case i2 => first | exact rfl | exact den1); (case hb => kcj_all); (case hz => first | (with_reducible assumption) | exact Sz.one); (case hl => first | exact Nat.le_refl _ | omega))
          case cA => exact ⟨_, rfl⟩
          case hR => exact hrows.sub (by kcj_all) (fun _ _ _ _ => rfl) (fun _ _ => Nat.le_refl _)
      case mono => exact fun I nw ho ⟨nw0, e, ho1, hh⟩ => ⟨ho, nw0, e, ho1, ⟨v0, _, rfl, Int.le_refl _, by omega, fun i h1 h2 h3 => (show i = v0.toNat by omega) ▸ h3⟩, hh⟩
      case h2 =>
        intro I2 k0 m1 nw1 g3 g4 hJ0 it2 t2 h2 tk2 F2 N2
        (try k_fold)
        obtain ⟨oI2, nw2, rfl, oI1, ⟨ld, tl, hlead, gl1, gl2, gl3⟩, R, vs, cR, rest, Fd, sf, uf, kf, oM, oP, oA, oR, vM, vP, vA, hf, dM, dP, dA, dR, ⟨tA, rfl⟩, rfl, ⟨n1, n2, n3, n4, n5, n6, n7, n8, b1, b2, b3, b4, b5⟩, hb, hF, zf, hrows⟩ := hJ0
        obtain ⟨oI3, oI4⟩ := oI2
        have oI5 : @Ne Nat I2 I1 := Ne.symm oI3
        replace oI3 : @Ne Nat I1 I2 := oI3
        obtain ⟨w1, w2, w3, w4, w5, w6, w7, w8, w9, w10, w11⟩ := offI_of oI1
        obtain ⟨v1, v2, v3, v4, v5, v6, v7, v8, v9, v10, v11⟩ := offI_of oI4
        clear oI1 oI4
        have hvl := hrows.1
        have gk63 : k0 < 2 ^ 63 := by omega
        have gk0 : 0 ≤ k0 := by omega
        have gl63 : ld < 2 ^ 63 := by omega
        have gl0 : 0 ≤ ld := by omega
        obtain ⟨xr, xv, xrow⟩ := hrows.2 (k0).toNat (by omega)
        replace xrow : RowAt rm rest xr (P (k0).toNat) (eN v0.toNat) := xrow
        obtain ⟨xas, xc, xh, xlen, xall⟩ := xrow
        obtain ⟨xx, xsx, xux, xkx, xcol, xmx, xzx⟩ := xall v0.toNat (by omega)
        obtain ⟨yr, yv, yrow⟩ := hrows.2 (ld).toNat (by omega)
        replace yrow : RowAt rm rest yr (P (ld).toNat) (eN v0.toNat) := yrow
        obtain ⟨yas, yc, yh, ylen, yall⟩ := yrow
        obtain ⟨yx, ysx, yux, ykx, ycol, ymx, yzx⟩ := yall v0.toNat (by omega)
        (try k_fold)
        k_steps
        · refine Stop.mk ?_
          refine' unrEnd_st (T := fun mm nw => ∃ nw0, nw = (I1, it1) :: nw0 ∧ LCg.Off1 I1 nw0 ∧ St rn rm L' news (fun v => ∃ t, v = some (.int v0 t)) P (fun _ => eN v0.toNat) f (eN v0.toNat) mm nw0) ?F ?N ?d0 ?st ?mono ?off
          (case F => k_asm)
          (case N => k_asm)
          (case d0 => k_upd)
          case st =>
            refine' with_iter ?d1 ?st2
            (case d1 => k_upd)
            case st2 =>
              (refine' St.intro ?dM ?dP ?dA ?dR ?D1 ?D2 ?D3 ?D4 ?D5 ?hf ?hF ?i1 ?i2 ?hb ?hz ?hl ?cA ?hR; (case D1 => k_upd); (case D2 => k_upd); (case D3 => k_upd); (case D4 => k_upd); (case dR => with_reducible assumption); (case D5 => k_upd); (case dM => with_reducible assumption); (case dP => with_reducible assumption); (case dA => with_reducible assumption); (case hf => first | rfl | assumption); (case hF => k_mem); (case i1 => first | exact rfl | exact num1); (case i2 => first | exact rfl | exact den1); (case hb => kcj_all); (case hz => first | (with_reducible assumption) | exact Sz.one); (case hl => first | exact Nat.le_refl _ | omega))
              case cA => exact ⟨_, rfl⟩
              case hR => exact hrows.sub (by kcj_all) (fun _ _ _ _ => rfl) (fun _ _ => Nat.le_refl _)
          case mono => exact fun nw ho ⟨nw0, e, ho1, hh⟩ => ⟨ho, nw0, e, ho1, ⟨k0, _, rfl, by omega, by omega, fun i h1 h2 h3 => absurd h3 (lemB (by assumption))⟩, hh⟩
          case off => exact fun _ _ hh => hh.1
        · refine Stop.mk ?_
          refine' unrEnd_st (T := fun mm nw => ∃ nw0, nw = (I1, it1) :: nw0 ∧ LCg.Off1 I1 nw0 ∧ St rn rm L' news (fun v => ∃ t, v = some (.int v0 t)) P (fun _ => eN v0.toNat) f (eN v0.toNat) mm nw0) ?F ?N ?d0 ?st ?mono ?off
          (case F => k_asm)
          (case N => k_asm)
          (case d0 => k_upd)
          case st =>
            refine' with_iter ?d1 ?st2
            (case d1 => k_upd)
            case st2 =>
              (refine' St.intro ?dM ?dP ?dA ?dR ?D1 ?D2 ?D3 ?D4 ?D5 ?hf ?hF ?i1 ?i2 ?hb ?hz ?hl ?cA ?hR; (case D1 => k_upd); (case D2 => k_upd); (case D3 => k_upd); (case D4 => k_upd); (case dR => with_reducible assumption); (case D5 => k_upd); (case dM => with_reducible assumption); (case dP => with_reducible assumption); (case dA => with_reducible assumption); (case hf => first | rfl | assumption); (case hF => k_mem); (case i1 => first | exact rfl | exact num1); (case i2 => first | exact rfl | exact den1); (case hb => kcj_all); (case hz => first | (with_reducible assumption) | exact Sz.one); (case hl => first | exact Nat.le_refl _ | omega))
              case cA => exact ⟨_, rfl⟩
              case hR => exact hrows.sub (by kcj_all) (fun _ _ _ _ => rfl) (fun _ _ => Nat.le_refl _)
          case mono => exact fun nw ho ⟨nw0, e, ho1, hh⟩ => ⟨ho, nw0, e, ho1, ⟨ld, _, hlead, gl1, gl2, fun i h1 h2 h3 => (Nat.lt_or_ge i k0.toNat).elim (fun hik => gl3 i h1 hik h3) (fun hik => (show k0.toNat = i by omega) ▸ lemA (by assumption) h3)⟩, hh⟩
          case off => exact fun _ _ hh => hh.1
      case h3x5 =>
        intro I2 m1 nw1 hJ0
        refine TurnsC.zero ?_
        intro h2 tk2 F2 N2
        (try k_fold)
        obtain ⟨oI2, nw2, rfl, oI1, ⟨ld, tl, hlead, gl1, gl2, gl3⟩, R, vs, cR, rest, Fd, sf, uf, kf, oM, oP, oA, oR, vM, vP, vA, hf, dM, dP, dA, dR, ⟨tA, rfl⟩, rfl, ⟨n1, n2, n3, n4, n5, n6, n7, n8, b1, b2, b3, b4, b5⟩, hb, hF, zf, hrows⟩ := hJ0
        obtain ⟨oI3, oI4⟩ := oI2
        have oI5 : @Ne Nat I2 I1 := Ne.symm oI3
        replace oI3 : @Ne Nat I1 I2 := oI3
        obtain ⟨w1, w2, w3, w4, w5, w6, w7, w8, w9, w10, w11⟩ := offI_of oI1
        obtain ⟨v1, v2, v3, v4, v5, v6, v7, v8, v9, v10, v11⟩ := offI_of oI4
        clear oI1 oI4
        have hvl := hrows.1
        (try k_fold)
        k_steps
        refine Stop.mk ?_
        refine' midS_st (T := fun mm nw => St rn rm L' news (fun v => ∃ t, v = some (.int v0 t)) P (fun _ => eN v0.toNat) f (eN v0.toNat) mm nw) ?F ?N ?d0 ?st ?mono
        (case F => k_asm)
        (case N => k_asm)
        (case d0 => k_upd)
        case st =>
          (refine' St.intro ?dM ?dP ?dA ?dR ?D1 ?D2 ?D3 ?D4 ?D5 ?hf ?hF ?i1 ?i2 ?hb ?hz ?hl ?cA ?hR; (case D1 => k_upd); (case D2 => k_upd); (case D3 => k_upd); (case D4 => k_upd); (case dR => with_reducible assumption); (case D5 => k_upd); (case dM => with_reducible assumption); (case dP => with_reducible assumption); (case dA => with_reducible assumption); (case hf => first | rfl | assumption); (case hF => k_mem); (case i1 => first | exact rfl | exact num1); (case i2 => first | exact rfl | exact den1); (case hb => kcj_all); (case hz => first | (with_reducible assumption) | exact Sz.one); (case hl => first | exact Nat.le_refl _ | omega))
          case cA => exact ⟨_, rfl⟩
          case hR => exact hrows.sub (by kcj_all) (fun _ _ _ _ => rfl) (fun _ _ => Nat.le_refl _)
        case mono => exact fun nw ho hh => ⟨ho, ⟨ld, _, hlead, gl1, gl2, gl3⟩, hh⟩
    · clear hrows n1 n2 n3 n4 n5 n6 n7 n8 b1 b2 b3 b4 b5 w1 w2 w3 w4 w5 w6 w7 w8 w9 w10 w11 hb hF dM dP dA dR hf hvl F1 N1
      rintro s2 ⟨h2, tk2, m2, nw2, rfl, F2, N2, oI1, ⟨ld, tl, hlead, gl1, gl2, gl3⟩, R, vs, cR, rest, Fd, sf, uf, kf, oM, oP, oA, oR, vM, vP, vA, hf, dM, dP, dA, dR, ⟨tA, rfl⟩, rfl, ⟨n1, n2, n3, n4, n5, n6, n7, n8, b1, b2, b3, b4, b5⟩, hb, hF, zf, hrows⟩
      obtain ⟨w1, w2, w3, w4, w5, w6, w7, w8, w9, w10, w11⟩ := offI_of oI1
      clear oI1
      have hvl := hrows.1
      have gl63 : ld < 2 ^ 63 := by omega
      have gl0 : 0 ≤ ld := by omega
      refine execs_cut2 (MidS { s with heap := h1, toks := tk1 } g' L' I1 it1 (fun mm nw => LCg.Off1 I1 nw ∧ ∃ P f, Sh v0.toNat P f ∧ P v0.toNat v0.toNat ≠ 0 ∧ St rn rm L' news (fun v => ∃ t, v = some (.int v0 t)) P (fun _ => eN v0.toNat) f (eN v0.toNat) mm nw)) ?_ ?_
      · obtain ⟨xr, xv, xrow⟩ := hrows.2 (v0).toNat (by omega)
        obtain ⟨yr, yv, yrow⟩ := hrows.2 (ld).toNat (by omega)
        replace yrow : RowAt rm rest yr (P (ld).toNat) (eN v0.toNat) := yrow
        obtain ⟨yas, yc, yh, ylen, yall⟩ := yrow
        obtain ⟨yx, ysx, yux, ykx, ycol, ymx, yzx⟩ := yall v0.toNat (by omega)
        (try k_fold)
        k_steps
        · (iterate 6 (try (((try show (_ : Flow → Shared → Prop) _ _)); (first | k_unfold | unfold UnrPost); (try dsimp only))))
          k_steps
          refine' taken_ret (q := 0) (P := P) hret ?F ?N ?hs ?hT ?hR ?hF ?i1 ?i2 ?hz ?he ?hrows ?hE ?hP
          (case F => k_asm)
          (case N => k_asm)
          (case hs => kcj_all)
          (case hT => k_mem)
          (case hR => k_mem)
          (case hF => k_mem)
          (case i1 => exact num0)
          (case i2 => exact den0)
          (case hz => exact Sz.zero)
          case hrows => exact hrows.sub (by kcj_all) (fun _ _ _ _ => rfl) (fun _ _ => Nat.le_refl _)
          (case he => omega)
          (case hE => exact fun _ _ => by omega)
          case hP => exact (.inr ⟨rfl, v0.toNat, P, f, gvn, sh, fun i h1 h2 => gl3 i h1 h2 (by assumption)⟩)
        · refine Stop.mk ?_
          refine' midS_st (T := fun mm nw => St rn rm L' news (fun v => ∃ t, v = some (.int v0 t)) (swapP P v0.toNat ld.toNat) (fun _ => eN v0.toNat) (-f) (eN v0.toNat) mm nw) ?F ?N ?d0 ?st ?mono
          (case F => k_asm)
          (case N => k_asm)
          (case d0 => k_upd)
          case st =>
            (refine' St.intro ?dM ?dP ?dA ?dR ?D1 ?D2 ?D3 ?D4 ?D5 ?hf ?hF ?i1 ?i2 ?hb ?hz ?hl ?cA ?hR; (case D1 => k_upd); (case D2 => k_upd); (case D3 => k_upd); (case D4 => k_upd); (case dR => with_reducible assumption); (case D5 => k_upd); (case dM => with_reducible assumption); (case dP => with_reducible assumption); (case dA => with_reducible assumption); (case hf => first | rfl | assumption); (case hF => k_mem); (case i1 => first | exact rfl | exact num1); (case i2 => first | exact rfl | exact den1); (case hb => kcj_all); (case hz => first | (with_reducible assumption) | exact Sz.one); (case hl => first | exact Nat.le_refl _ | omega))
            case cA => exact ⟨_, rfl⟩
            case hR => exact RowsAt.swap hrows (by kcj_all) gvn (by omega) (toNat_ne gl0 g1 (by assumption)) xv yv
          case mono => exact fun nw ho hh => ⟨ho, _, _, hsw _ _ _ _ gvn (toNat_ltN g1 gl1 (by assumption)) (by omega) sh, (by unfold swapP; rw [if_pos rfl]; assumption), hh⟩
        · obtain rfl : ld = v0 := by assumption
          refine Stop.mk ?_
          refine' midS_st (T := fun mm nw => St rn rm L' news (fun v => ∃ t, v = some (.int ld t)) P (fun _ => eN ld.toNat) f (eN ld.toNat) mm nw) ?F ?N ?d0 ?st ?mono
          (case F => k_asm)
          (case N => k_asm)
          (case d0 => k_upd)
          case st =>
            (refine' St.intro ?dM ?dP ?dA ?dR ?D1 ?D2 ?D3 ?D4 ?D5 ?hf ?hF ?i1 ?i2 ?hb ?hz ?hl ?cA ?hR; (case D1 => k_upd); (case D2 => k_upd); (case D3 => k_upd); (case D4 => k_upd); (case dR => with_reducible assumption); (case D5 => k_upd); (case dM => with_reducible assumption); (case dP => with_reducible assumption); (case dA => with_reducible assumption); (case hf => first | rfl | assumption); (case hF => k_mem); (case i1 => first | exact rfl | exact num1); (case i2 => first | exact rfl | exact den1); (case hb => kcj_all); (case hz => first | (with_reducible assumption) | exact Sz.one); (case hl => first | exact Nat.le_refl _ | omega))
            case cA => exact ⟨_, rfl⟩
            case hR => exact hrows.sub (by kcj_all) (fun _ _ _ _ => rfl) (fun _ _ => Nat.le_refl _)
          case mono => exact fun nw ho hh => ⟨ho, _, _, sh, (by assumption), hh⟩
      · clear hrows n1 n2 n3 n4 n5 n6 n7 n8 b1 b2 b3 b4 b5 w1 w2 w3 w4 w5 w6 w7 w8 w9 w10 w11 hb hF dM dP dA dR hf hvl F2 N2 hlead gl1 gl2 gl3 gl63 gl0 sh
        rintro s3 ⟨h3, tk3, m3, nw3, rfl, F3, N3, oI1, P, f, sh, hnz, R, vs, cR, rest, Fd, sf, uf, kf, oM, oP, oA, oR, vM, vP, vA, hf, dM, dP, dA, dR, ⟨tA, rfl⟩, rfl, ⟨n1, n2, n3, n4, n5, n6, n7, n8, b1, b2, b3, b4, b5⟩, hb, hF, zf, hrows⟩
        obtain ⟨w1, w2, w3, w4, w5, w6, w7, w8, w9, w10, w11⟩ := offI_of oI1
        clear oI1
        have hvl := hrows.1
        obtain ⟨xr, xv, xrow⟩ := hrows.2 (v0).toNat (by omega)
        replace xrow : RowAt rm rest xr (P (v0).toNat) (eN v0.toNat) := xrow
        obtain ⟨xas, xc, xh, xlen, xall⟩ := xrow
        obtain ⟨xx, xsx, xux, xkx, xcol, xmx, xzx⟩ := xall v0.toNat (by omega)
        (try k_fold)
        k_steps
        refine Stop.mk ?_
        refine comp_list (KRat (fun j => P v0.toNat j / P v0.toNat v0.toNat) (2 * eN v0.toNat)) KRat.mono (by rfl) (by k_asm) (by k_asm) (by k_mem) xlen (by omega) ?stepB ?finB
        case stepB =>
          intro ib ysb tlb hib itb apb vb Ib oIb Cb oCb Db mB hB tkb Eb hvb hCb hxb Fb Nb offb neb
          obtain ⟨rb, sb, ub, kb, g1b, g2b, g3b⟩ := xall ib hib
          obtain rfl : vb = .ref rb := Option.some.inj (hvb.symm.trans g1b)
          k_steps
          (iterate 6 (try ((try show (_ : Value → Shared → Prop) _ _); k_unfold; (try dsimp only))))
          exact ItemEnd.one (by k_asm) (by k_asm) (by assumption) ⟨_, _, _, _, rfl, .head _, Sz.mono (by assumption) (by omega)⟩
        case finB =>
        intro gb ysb tlb itb apb
        refine FinE.perm perm7 ?_
        have y1 := Away.all apb (a := L' + 1) (rest := rest) (by k_mem) (by k_all)
        have y2 := Away.all apb (a := L' + 1 + 1) (rest := rest) (by k_mem) (by k_all)
        have y3 := Away.all apb (a := L' + 1 + 1 + 1) (rest := rest) (by k_mem) (by k_all)
        have y4 := Away.all apb (a := L' + 1 + 1 + 1 + 1) (rest := rest) (by k_mem) (by k_all)
        have y5 := Away.all apb (a := R) (rest := rest) (by k_mem) (by k_all)
        have y6 := Away.all apb (a := I1) (rest := rest) (by k_mem) (by k_all)
        k_steps
        refine Stop.mk ?_
        refine' iter_st (J := (fun I2 k mm nw => LCg.Off1 I2 nw ∧ ∃ nw0, nw = (I1, it1) :: nw0 ∧ LCg.Off1 I1 nw0 ∧ St rn rm L' news (fun v => ∃ t, v = some (.int v0 t)) (elimP P v0.toNat k.toNat) (elimE (eN v0.toNat) v0.toNat k.toNat) (f * P v0.toNat v0.toNat) (6 * (eN v0.toNat) + 1) mm nw0)) (T := fun mm nw => ∃ nw0, nw = (I1, it1) :: nw0 ∧ LCg.Off1 I1 nw0 ∧ St rn rm L' news (fun v => ∃ t, v = some (.int v0 t)) (elimP P v0.toNat 0) (elimE (eN v0.toNat) v0.toNat 0) (f * P v0.toNat v0.toNat) (6 * (eN v0.toNat) + 1) mm nw0) rfl ?hr ?hab ?F ?N ?hE ?st ?mono ?h2 ?h3x4
        (case hr => assumption)
        (case hab => omega)
        (case F => k_asm)
        (case N => k_asm)
        (case hE => first | passes_own | with_unfolding_all passes_own)
        case st =>
          refine' with_iter ?d1 ?st2
          (case d1 => k_upd)
          case st2 =>
            (refine' St.intro ?dM ?dP ?dA ?dR ?D1 ?D2 ?D3 ?D4 ?D5 ?hf ?hF ?i1 ?i2 ?hb ?hz ?hl ?cA ?hR; (case D1 => k_upd); (case D2 => k_upd); (case D3 => k_upd); (case D4 => k_upd); (case dR => with_reducible assumption); (case D5 => k_upd); (case dM => with_reducible assumption); (case dP => with_reducible assumption); (case dA => with_reducible assumption); (case hf => first | rfl | assumption); (case hF => k_mem); (case i1 => first | exact rfl | exact num1); (case i2 => first | exact rfl | exact den1); (case hb => kcj_all); (case hz => first | (with_reducible assumption) | exact Sz.one); (case hl => first | exact Nat.le_refl _ | omega))
            case cA => exact ⟨_, rfl⟩
            case hR => exact (RowsAt.set (q := fun j => P v0.toNat j / P v0.toNat v0.toNat) (e := 2 * (eN v0.toNat)) hrows (by kcj_all) gvn (row_of (itb.sub KRat.mono (by kcj_all)) (by k_mem))).sub (fun _ h => h) (fun i _ j _ => elim_start i j) (fun i _ => elimE_start i)
        case mono => exact fun I nw ho hh => ⟨ho, hh⟩
        case h2 =>
          intro I2 k0 m1 nw1 g3 g4 hJ0 it2 t2 h2 tk2 F2 N2
          (try k_fold)
          obtain ⟨oI2, nw2, rfl, oI1, R, vs, cR, rest, Fd, sf, uf, kf, oM, oP, oA, oR, vM, vP, vA, hf, dM, dP, dA, dR, ⟨tA, rfl⟩, rfl, ⟨n1, n2, n3, n4, n5, n6, n7, n8, b1, b2, b3, b4, b5⟩, hb, hF, zf, hrows⟩ := hJ0
          obtain ⟨oI3, oI4⟩ := oI2
          have oI5 : @Ne Nat I2 I1 := Ne.symm oI3
          replace oI3 : @Ne Nat I1 I2 := oI3
          obtain ⟨w1, w2, w3, w4, w5, w6, w7, w8, w9, w10, w11⟩ := offI_of oI1
          obtain ⟨v1, v2, v3, v4, v5, v6, v7, v8, v9, v10, v11⟩ := offI_of oI4
          clear oI1 oI4
          have hvl := hrows.1
          have gk63 : k0 < 2 ^ 63 := by omega
          have ek1 : (k0 + 1).toNat = k0.toNat + 1 := toNat_s (by with_reducible assumption)
          have h2e : 2 * (eN v0.toNat) ≤ 158 := by omega
          obtain ⟨xr, xv, xrow⟩ := hrows.2 (v0).toNat (by omega)
          replace xrow : RowAt rm rest xr (elimP P v0.toNat k0.toNat v0.toNat) (2 * (eN v0.toNat)) := by have := xrow; rwa [elimE_self] at this
          obtain ⟨xas, xc, xh, xlen, xall⟩ := xrow
          obtain ⟨xx, xsx, xux, xkx, xcol, xmx, xzx⟩ := xall v0.toNat (by omega)
          obtain ⟨yr, yv, yrow⟩ := hrows.2 (k0).toNat (by omega)
          replace yrow : RowAt rm rest yr (elimP P v0.toNat k0.toNat k0.toNat) (2 * (eN v0.toNat)) := yrow.sub (fun _ h => h) (fun _ _ => rfl) elimE_own
          obtain ⟨yas, yc, yh, ylen, yall⟩ := yrow
          obtain ⟨yx, ysx, yux, ykx, ycol, ymx, yzx⟩ := yall v0.toNat (by omega)
          (try k_fold)
          k_steps
          · refine Stop.mk ?_
            refine comp_range (KRat (fun j => elimP P v0.toNat k0.toNat k0.toNat j - elimP P v0.toNat k0.toNat k0.toNat v0.toNat * elimP P v0.toNat k0.toNat v0.toNat j) (6 * eN v0.toNat + 1)) KRat.mono (by rfl) (by k_asm) (by k_asm) (by assumption) (by omega) ?stepC ?finC
            case stepC =>
              intro ic ysc tlc hic itc apc tc Ic oIc Cc oCc Dc mC hC tkc Ec hCc hxc Fc Nc offc nec
              obtain ⟨r1, s1, u1, q1, e1a, e1b, e1c⟩ := xall ic hic
              obtain ⟨r2, s2, u2, q2, e2a, e2b, e2c⟩ := yall ic hic
              replace e1a : xas[((ic : Nat) : Int).toNat]? = some (.ref r1) := e1a
              replace e2a : yas[((ic : Nat) : Int).toNat]? = some (.ref r2) := e2a
              have h0c : (0 : Int) ≤ (ic : Int) := by omega
              have h63 : (ic : Int) < 2 ^ 63 := by omega
              k_steps
              (iterate 6 (try ((try show (_ : Value → Shared → Prop) _ _); k_unfold; (try dsimp only))))
              exact ItemEnd.two (by k_asm) (by k_asm) (by assumption) ⟨_, _, _, _, rfl, .head _, Sz.mono (by assumption) (by omega)⟩
            case finC =>
            intro gc ysc tlc itc apc
            refine FinE.perm perm7 ?_
            have y1 := Away.all apc (a := L' + 1) (rest := rest) (by k_mem) (by k_all)
            have y2 := Away.all apc (a := L' + 1 + 1) (rest := rest) (by k_mem) (by k_all)
            have y3 := Away.all apc (a := L' + 1 + 1 + 1) (rest := rest) (by k_mem) (by k_all)
            have y4 := Away.all apc (a := L' + 1 + 1 + 1 + 1) (rest := rest) (by k_mem) (by k_all)
            have y5 := Away.all apc (a := R) (rest := rest) (by k_mem) (by k_all)
            have y6 := Away.all apc (a := I1) (rest := rest) (by k_mem) (by k_all)
            have y7 := Away.all apc (a := I2) (rest := rest) (by k_mem) (by k_all)
            k_steps
            refine Stop.mk ?_
            refine' unrEnd_st (T := fun mm nw => ∃ nw0, nw = (I1, it1) :: nw0 ∧ LCg.Off1 I1 nw0 ∧ St rn rm L' news (fun v => ∃ t, v = some (.int v0 t)) (elimP P v0.toNat (k0 + 1).toNat) (elimE (eN v0.toNat) v0.toNat (k0 + 1).toNat) (f * P v0.toNat v0.toNat) (6 * (eN v0.toNat) + 1) mm nw0) ?F ?N ?d0 ?st ?mono ?off
            (case F => k_asm)
            (case N => k_asm)
            (case d0 => k_upd)
            case st =>
              refine' with_iter ?d1 ?st2
              (case d1 => k_upd)
              case st2 =>
                (refine' St.intro ?dM ?dP ?dA ?dR ?D1 ?D2 ?D3 ?D4 ?D5 ?hf ?hF ?i1 ?i2 ?hb ?hz ?hl ?cA ?hR; (case D1 => k_upd); (case D2 => k_upd); (case D3 => k_upd); (case D4 => k_upd); (case dR => with_reducible assumption); (case D5 => k_upd); (case dM => with_reducible assumption); (case dP => with_reducible assumption); (case dA => with_reducible assumption); (case hf => first | rfl | assumption); (case hF => k_mem); (case i1 => first | exact rfl | exact num1); (case i2 => first | exact rfl | exact den1); (case hb => kcj_all); (case hz => first | (with_reducible assumption) | exact Sz.one); (case hl => first | exact Nat.le_refl _ | omega))
                case cA => exact ⟨_, rfl⟩
                case hR => exact (RowsAt.set (k := k0.toNat) (q := fun j => elimP P v0.toNat k0.toNat k0.toNat j - elimP P v0.toNat k0.toNat k0.toNat v0.toNat * elimP P v0.toNat k0.toNat v0.toNat j) (e := 6 * (eN v0.toNat) + 1) hrows (by kcj_all) (by omega) (row_of (itc.sub KRat.mono (by kcj_all)) (by k_mem))).sub (fun _ h => h) (fun i _ j _ => by rw [ek1]; exact elim_turn (toNat_ne g3 g1 (by assumption)) i j) (fun i _ => by rw [ek1]; exact elimE_turn (toNat_ne g3 g1 (by assumption)) i)
            case mono => exact fun nw ho ⟨nw0, e, ho1, hh⟩ => ⟨ho, nw0, e, ho1, hh⟩
            case off => exact fun _ _ hh => hh.1
          · have hkv : k0 = v0 := by assumption
            refine Stop.mk ?_
            refine' unrEnd_st (T := fun mm nw => ∃ nw0, nw = (I1, it1) :: nw0 ∧ LCg.Off1 I1 nw0 ∧ St rn rm L' news (fun v => ∃ t, v = some (.int v0 t)) (elimP P v0.toNat (k0 + 1).toNat) (elimE (eN v0.toNat) v0.toNat (k0 + 1).toNat) (f * P v0.toNat v0.toNat) (6 * (eN v0.toNat) + 1) mm nw0) ?F ?N ?d0 ?st ?mono ?off
            (case F => k_asm)
            (case N => k_asm)
            (case d0 => k_upd)
            case st =>
              refine' with_iter ?d1 ?st2
              (case d1 => k_upd)
              case st2 =>
                (refine' St.intro ?dM ?dP ?dA ?dR ?D1 ?D2 ?D3 ?D4 ?D5 ?hf ?hF ?i1 ?i2 ?hb ?hz ?hl ?cA ?hR; (case D1 => k_upd); (case D2 => k_upd); (case D3 => k_upd); (case D4 => k_upd); (case dR => with_reducible assumption); (case D5 => k_upd); (case dM => with_reducible assumption); (case dP => with_reducible assumption); (case dA => with_reducible assumption); (case hf => first | rfl | assumption); (case hF => k_mem); (case i1 => first | exact rfl | exact num1); (case i2 => first | exact rfl | exact den1); (case hb => kcj_all); (case hz => first | (with_reducible assumption) | exact Sz.one); (case hl => first | exact Nat.le_refl _ | omega))
                case cA => exact ⟨_, rfl⟩
                case hR => exact hrows.sub (by kcj_all) (fun i _ j _ => by rw [ek1, hkv]; exact elim_at i j) (fun i _ => by rw [ek1, hkv]; exact elimE_at i)
            case mono => exact fun nw ho ⟨nw0, e, ho1, hh⟩ => ⟨ho, nw0, e, ho1, hh⟩
            case off => exact fun _ _ hh => hh.1
        case h3x4 =>
          intro I2 m1 nw1 hJ0
          refine TurnsC.zero ?_
          intro h2 tk2 F2 N2
          (try k_fold)
          obtain ⟨oI2, nw2, rfl, oI1, R, vs, cR, rest, Fd, sf, uf, kf, oM, oP, oA, oR, vM, vP, vA, hf, dM, dP, dA, dR, cA, rfl, ⟨n1, n2, n3, n4, n5, n6, n7, n8, b1, b2, b3, b4, b5⟩, hb, hF, zf, hrows⟩ := hJ0
          obtain ⟨oI3, oI4⟩ := oI2
          have oI5 : @Ne Nat I2 I1 := Ne.symm oI3
          replace oI3 : @Ne Nat I1 I2 := oI3
          obtain ⟨w1, w2, w3, w4, w5, w6, w7, w8, w9, w10, w11⟩ := offI_of oI1
          obtain ⟨v1, v2, v3, v4, v5, v6, v7, v8, v9, v10, v11⟩ := offI_of oI4
          clear oI1 oI4
          have hvl := hrows.1
          have ev1 : (v0 + 1).toNat = v0.toNat + 1 := toNat_s (by with_reducible assumption)
          have eE : eN (v0 + 1).toNat = 6 * (eN v0.toNat) + 1 := by rw [ev1]; rfl
          (try k_fold)
          k_steps
          refine Stop.mk ?_
          refine' unrEnd_st (T := fun mm nw => St rn rm L' news (fun _ => True) (elimP P v0.toNat rn) (fun _ => eN (v0 + 1).toNat) (f * P v0.toNat v0.toNat) (eN (v0 + 1).toNat) mm nw) ?F ?N ?d0 ?st ?mono ?off
          (case F => k_asm)
          (case N => k_asm)
          (case d0 => k_upd)
          case st =>
            (refine' St.intro ?dM ?dP ?dA ?dR ?D1 ?D2 ?D3 ?D4 ?D5 ?hf ?hF ?i1 ?i2 ?hb ?hz ?hl ?cA ?hR; (case D1 => k_upd); (case D2 => k_upd); (case D3 => k_upd); (case D4 => k_upd); (case dR => with_reducible assumption); (case D5 => k_upd); (case dM => with_reducible assumption); (case dP => with_reducible assumption); (case dA => with_reducible assumption); (case hf => first | rfl | assumption); (case hF => k_mem); (case i1 => first | exact rfl | exact num1); (case i2 => first | exact rfl | exact den1); (case hb => kcj_all); (case hz => first | (with_reducible assumption) | exact Sz.one); (case hl => first | exact Nat.le_refl _ | omega))
            case cA => exact trivial
            case hR => exact hrows.sub (by kcj_all) (fun _ _ _ _ => rfl) (fun _ _ => by rw [eE]; exact elimE_le)
          case mono => exact fun nw ho hh => ⟨ho, _, _, (by rw [ev1]; exact hel _ _ _ gvn sh hnz), hh⟩
          case off => exact fun _ _ hh => hh.1
  case h3x6 =>
    intro I m1 nw1 hJ0
    refine TurnsC.zero ?_
    intro h2 tk2 F2 N2
    (try k_fold)
    obtain ⟨oI, P, f, sh, R, vs, cR, rest, Fd, sf, uf, kf, oM, oP, oA, oR, vM, vP, vA, hf, dM, dP, dA, dR, cA, rfl, ⟨n1, n2, n3, n4, n5, n6, n7, n8, b1, b2, b3, b4, b5⟩, hb, hF, zf, hrows⟩ := hJ0
    obtain ⟨w1, w2, w3, w4, w5, w6, w7, w8, w9, w10, w11⟩ := offI_of oI
    have hvl := hrows.1
    (try k_fold)
    k_steps
    refine' taken_ret (q := f) (P := P) hret ?F ?N ?hs ?hT ?hR ?hF ?i1 ?i2 ?hz ?he ?hrows ?hE ?hP
    (case F => k_asm)
    (case N => k_asm)
    (case hs => kcj_all)
    (case hT => k_mem)
    (case hR => k_mem)
    (case hF => k_mem)
    (case i1 => exact rfl)
    (case i2 => exact rfl)
    (case hz => exact zf)
    case hrows => exact hrows.sub (by kcj_all) (fun _ _ _ _ => rfl) (fun _ _ => Nat.le_refl _)
    (case he => exact eN_le3 hn)
    (case hE => exact fun _ _ => eN_le3 hn)
    case hP => exact (.inl sh)
end Mine
end
section
open PySem PySem.W PyProof.Rows PySem.Calls PySem.Spec PyProof.V
set_option Elab.async false
set_option maxRecDepth 100000
set_option maxHeartbeats 8000000
namespace Mine
inductive Open3 (led : List (Addr × Obj)) (r : Addr) (p : Nat → Rat) (e : Nat) : Prop
  | mk (c : Nat) (a0 : Addr) (s0 u0 : Tok) (k0 : Nat) (a1 : Addr) (s1 u1 : Tok) (k1 : Nat) (a2 : Addr) (s2 u2 : Tok) (k2 : Nat) (f0 : (r, listObj [.ref a0, .ref a1, .ref a2] c) ∈ led) (f1 : (a0, tup2 (p 0).num s0 (p 0).den u0 k0) ∈ led) (f2 : (a1, tup2 (p 1).num s1 (p 1).den u1 k1) ∈ led) (f3 : (a2, tup2 (p 2).num s2 (p 2).den u2 k2) ∈ led) (f4 : Sz e (p 0)) (f5 : Sz e (p 1)) (f6 : Sz e (p 2)) : Open3 led r p e
theorem RowAt.open3 {led : List (Addr × Obj)} {r : Addr} {p : Nat → Rat} {e : Nat} (h : RowAt 3 led r p e) : Open3 led r p e := by
  obtain ⟨as, c, h1, h2, h3⟩ := h
  obtain ⟨a0, s0, u0, k0, g0, m0, z0⟩ := h3 0 (by decide)
  obtain ⟨a1, s1, u1, k1, g1, m1, z1⟩ := h3 1 (by decide)
  obtain ⟨a2, s2, u2, k2, g2, m2, z2⟩ := h3 2 (by decide)
  obtain rfl := list3 h2 g0 g1 g2
  exact ⟨c, a0, s0, u0, k0, a1, s1, u1, k1, a2, s2, u2, k2, h1, m0, m1, m2, z0, z1, z2⟩
section
variable {w : World} {mean : ExcName → Option Value} {mg mb : Str → Option Value} {news : List (Addr × Obj)}
  {dp un : Nat} {gd : Option (List Code)} {cn : Str} {cs : Scope} {a : Addr} {ccd : Value} {cl : List (Str × Addr)} {outer : List Env} {A₀ : Around} {base h₀ : Heap} {L : Addr} {m : Str → Option Value} {s : Shared} {Q E : Value → Shared → Prop}
theorem matrix_law {n : Nat} {v : Int} {P S : Addr} {k : Int} {tk : Tok} {c0 c2 : Nat} {vs : List Value} {ns : List Int} {t1 : Tok} {pre rest : List (Addr × Obj)}
    (B : Below A₀ base outer h₀) (F : Fr h₀ L s.heap m) (X : (Hd.hd.heap_1 w.params).In h₀) (N : News h₀ L s.heap ((P, pressObj S k tk c0) :: (pre ++ rest))) (T : Top Hd.hd.view_1 LO mean mg mb h₀) (hk : cs.kind = .function) (hd : dp + 5 < recursionLimit) (hu : un + 8 * 5 < cLine) (G : Great mg)
    (hS : (S, listObj vs c2) ∈ pre) (hv : IntsAre vs ns) (hl : ns.length ≤ 40) (hk0 : 0 ≤ k) (hk1 : k ≤ 100) (hpre : ∀ q ∈ pre, q.1 ≠ P) (hoff : ∀ p ∈ rest, ∀ q ∈ (P, pressObj S k tk c0) :: pre, q.1 ≠ p.1)
    (ret : ∀ D k' t' rest' Pm h' tk', Fr h₀ L h' m → News h₀ L h' ((P, pressObj S k' t' c0) :: (pre ++ rest')) → 0 ≤ k' → k' ≤ k + 20 → (∀ p ∈ rest', ∀ q ∈ (P, pressObj S k' t' c0) :: pre, q.1 ≠ p.1) → (∀ p ∈ rest, p ∈ rest') →
      MatAt n n rest' D Pm 2 → (∀ i j, i < n → j < n → Ent (Pm i j)) → Q (.ref D) { s with heap := h', toks := tk' }) (hn : n ≤ 3 := by decide) (hvn : v = (n : Int) := by rfl) :
    wpAny (model PR w) (ktrTop dp un gd cn cs L a ccd cl outer) (call (.ref 136) [.ref P, .int v t1]) Q E s := by
  subst hvn
  have hSP : @Ne Nat S P := hpre _ hS
  refine matrix_does w mean mg mb G n hn (pre ++ rest) P S k tk c0 vs ns c2 t1 (List.mem_append_left _ hS) hv hl hk0 hk1 (fun p hp => ?_) hSP dp un gd cn cs a ccd cl outer A₀ base h₀ L m s Q E B F X N T hk hd hu ?_
  · rcases List.mem_append.mp hp with hp | hp
    · exact hpre p hp
    · exact Ne.symm (hoff p hp _ (.head _))
  · rintro r news' h' tk' F' N' ⟨D, tl, k', t', vs', c, rfl, rfl, hk0', hk1', ap, hD, it⟩
    obtain ⟨Pm, h5, h6⟩ := ents_mat it
    refine ret D k' t' (tl ++ rest) Pm h' tk' F' (fun p hp => N' p ?_) hk0' hk1' (fun p hp q hq => ?_) (fun p hp => List.mem_append_right _ hp) ⟨vs', c, List.mem_append_left _ hD, (rows_of h5).sub (fun q hq => List.mem_append_left _ hq) (fun _ _ _ _ => rfl) fun _ _ => Nat.le_refl _⟩ h6
    · rcases List.mem_cons.mp hp with rfl | hp
      · exact .head _
      · refine .tail _ ?_
        rcases List.mem_append.mp hp with hp | hp
        · exact List.mem_append_right _ (List.mem_append_left _ hp)
        · rcases List.mem_append.mp hp with hp | hp
          · exact List.mem_append_left _ hp
          · exact List.mem_append_right _ (List.mem_append_right _ hp)
    · rcases List.mem_append.mp hp with hp | hp
      · refine ap p hp q ?_
        rcases List.mem_cons.mp hq with rfl | hq
        · exact .head _
        · exact .tail _ (List.mem_append_left _ hq)
      · rcases List.mem_cons.mp hq with rfl | hq
        · exact hoff p hp (P, pressObj S k tk c0) (.head _)
        · exact hoff p hp q (.tail _ hq)
end
inductive Grow (tl rest : List (Addr × Obj)) : List (Addr × Obj) → List (Addr × Obj) → Prop
  | here : Grow tl rest rest (tl ++ rest)
  | cons {a l l'} : Grow tl rest l l' → Grow tl rest (a :: l) (a :: l')
theorem Grow.mem {tl rest : List (Addr × Obj)} : ∀ {l l' : List (Addr × Obj)}, Grow tl rest l l' → ∀ p ∈ l', p ∈ tl ++ l
  | _, _, .here => fun _ h => h
  | _, _, .cons g => fun p hp => by
    rcases List.mem_cons.mp hp with rfl | hp
    · exact List.mem_append_right _ (.head _)
    · rcases List.mem_append.mp (g.mem p hp) with h | h
      · exact List.mem_append_left _ h
      · exact List.mem_append_right _ (.tail _ h)
theorem Grow.news {h₀ h : Heap} {L : Addr} {tl rest l l' : List (Addr × Obj)} (N : News h₀ L h (tl ++ l)) (g : Grow tl rest l l') : News h₀ L h l' := fun p hp => N p (g.mem p hp)
inductive MidL (s : Shared) (h₀ : Heap) (L : Addr) (J : (Str → Option Value) → List (Addr × Obj) → Prop) (s' : Shared) : Prop
  | mk (h tk m nw : _) (f0 : s' = { s with heap := h, toks := tk }) (f1 : Fr h₀ L h m) (f2 : News h₀ L h nw) (f3 : J m nw) : MidL s h₀ L J s'
theorem MidL.intro {s : Shared} {h₀ : Heap} {L : Addr} {J : (Str → Option Value) → List (Addr × Obj) → Prop} {h : Heap} {tk : Nat} {m : Str → Option Value} {all : List (Addr × Obj)}
    (F : Fr h₀ L h m) (N : News h₀ L h all) (hj : ∃ small, (∀ p ∈ small, p ∈ all) ∧ J m small) : MidL s h₀ L J { s with heap := h, toks := tk } :=
  let ⟨small, hs, hj⟩ := hj
  ⟨h, tk, m, small, rfl, F, fun p hp => N p (hs p hp), hj⟩
end Mine
end
section
open PySem PySem.W PyProof.Rows PySem.Calls PySem.Spec PyProof.V
set_option Elab.async false
set_option maxRecDepth 100000
set_option maxHeartbeats 8000000
namespace Mine
theorem great_of {mg : Str → Option Value} {h : Heap} {n : Int} (V : LooseAre [(PySem.Str.ofString "GREATEST", WData.int n)] mg h) (hn : ((2 ^ 2300 : Nat) : Int) ≤ n) : Great mg := by
  obtain ⟨v, h1, h2⟩ := V.val _ (.head _)
  cases h2
  exact ⟨n, _, h1, hn⟩
theorem execs_cutL {prog : Program} {w : World} {A : Around} {E : Value → Shared → Prop} {s : Shared} {env : Env} {st : Stmt} {rest : List Stmt} {Q : Flow → Shared → Prop} {h₀ : Heap} {L : Addr} {m : Str → Option Value} (J : Addr → (Str → Option Value) → List (Addr × Obj) → Prop) (_F : Fr h₀ L s.heap m)
    (h1 : wpAny (model prog w) A (exec st env) (fun f s' => match f with | .next => Stop (MidL s h₀ L (J L) s') | f => Q f s') E s)
    (h2 : ∀ h tk m nw, Fr h₀ L h m → News h₀ L h nw → J L m nw → wpAny (model prog w) A (execs rest env) Q E { s with heap := h, toks := tk }) : wpAny (model prog w) A (execs (st :: rest) env) Q E s :=
  execs_cut (MidL s h₀ L (J L)) h1 fun s' ⟨h, tk, m, nw, e, F, N, j⟩ => e ▸ h2 h tk m nw F N j
inductive JB (K : Int) (Z : (Str → Option Value) → Option Value → List (Addr × Obj) → Prop) (L : Addr) (mm : Str → Option Value) (nw : List (Addr × Obj)) : Prop
  | mk (P S : Addr) (vs : List Value) (ns : List Int) (k : Int) (t : Tok) (c c2 : Nat) (o1 o2 o3 o4 o5 o6 o7 : Obj) (v1 v2 v3 v4 v5 v6 v7 : Option Value) (rest : List (Addr × Obj)) (f0 : o1.data = .cell v1) (f1 : o2.data = .cell v2) (f2 : o3.data = .cell v3) (f3 : o4.data = .cell v4) (f4 : o5.data = .cell v5) (f5 : o6.data = .cell v6) (f6 : o7.data = .cell v7) (f7 : v1 = some (.ref P)) (f8 : nw = (P, pressObj S k t c) :: (S, listObj vs c2) :: (L + 1 + 1 + 1 + 1 + 1 + 1 + 1, o7) :: (L + 1 + 1 + 1 + 1 + 1 + 1, o6) :: (L + 1 + 1 + 1 + 1 + 1, o5) :: (L + 1 + 1 + 1 + 1, o4) :: (L + 1 + 1 + 1, o3) :: (L + 1 + 1, o2) :: (L + 1, o1) :: rest) (f9 : IntsAre vs ns) (f10 : ns.length ≤ 40) (f11 : 0 ≤ k) (f12 : k ≤ K) (f13 : @Ne Nat S P) (f14 : @Ne Nat (L + 1) P) (f15 : @Ne Nat (L + 1 + 1) P) (f16 : @Ne Nat (L + 1 + 1 + 1) P) (f17 : @Ne Nat (L + 1 + 1 + 1 + 1) P) (f18 : @Ne Nat (L + 1 + 1 + 1 + 1 + 1) P) (f19 : @Ne Nat (L + 1 + 1 + 1 + 1 + 1 + 1) P) (f20 : @Ne Nat (L + 1 + 1 + 1 + 1 + 1 + 1 + 1) P) (f21 : @Ne Nat P (L + 1)) (f22 : @Ne Nat P (L + 1 + 1)) (f23 : @Ne Nat P (L + 1 + 1 + 1)) (f24 : @Ne Nat P (L + 1 + 1 + 1 + 1)) (f25 : @Ne Nat P (L + 1 + 1 + 1 + 1 + 1)) (f26 : @Ne Nat P (L + 1 + 1 + 1 + 1 + 1 + 1)) (f27 : @Ne Nat P (L + 1 + 1 + 1 + 1 + 1 + 1 + 1)) (f28 : @Ne Nat S (L + 1)) (f29 : @Ne Nat S (L + 1 + 1)) (f30 : @Ne Nat S (L + 1 + 1 + 1)) (f31 : @Ne Nat S (L + 1 + 1 + 1 + 1)) (f32 : @Ne Nat S (L + 1 + 1 + 1 + 1 + 1)) (f33 : @Ne Nat S (L + 1 + 1 + 1 + 1 + 1 + 1)) (f34 : @Ne Nat S (L + 1 + 1 + 1 + 1 + 1 + 1 + 1)) (f35 : (∀ p ∈ rest, p.1 ≠ L + 1)) (f36 : (∀ p ∈ rest, p.1 ≠ L + 1 + 1)) (f37 : (∀ p ∈ rest, p.1 ≠ L + 1 + 1 + 1)) (f38 : (∀ p ∈ rest, p.1 ≠ L + 1 + 1 + 1 + 1)) (f39 : (∀ p ∈ rest, p.1 ≠ L + 1 + 1 + 1 + 1 + 1)) (f40 : (∀ p ∈ rest, p.1 ≠ L + 1 + 1 + 1 + 1 + 1 + 1)) (f41 : (∀ p ∈ rest, p.1 ≠ L + 1 + 1 + 1 + 1 + 1 + 1 + 1)) (f42 : (∀ p ∈ rest, p.1 ≠ S)) (f43 : (∀ p ∈ rest, p.1 ≠ P)) (f44 : Z mm v2 rest) : JB K Z L mm nw
theorem JB.intro {K : Int} {Z : (Str → Option Value) → Option Value → List (Addr × Obj) → Prop} {L P S : Addr} {vs : List Value} {ns : List Int} {k : Int} {t : Tok} {c e2 : Nat} {o1 o2 o3 o4 o5 o6 o7 : Obj} {v1 v2 v3 v4 v5 v6 v7 : Option Value} {all l1 l2 l3 l4 l5 l6 l7 l8 rest : List (Addr × Obj)} {mm : Str → Option Value}
    (D1 : Del P (pressObj S k t c) all l1) (D2 : Del S (listObj vs e2) l1 l2) (D3 : Del (L + 1 + 1 + 1 + 1 + 1 + 1 + 1) o7 l2 l3) (D4 : Del (L + 1 + 1 + 1 + 1 + 1 + 1) o6 l3 l4) (D5 : Del (L + 1 + 1 + 1 + 1 + 1) o5 l4 l5) (D6 : Del (L + 1 + 1 + 1 + 1) o4 l5 l6) (D7 : Del (L + 1 + 1 + 1) o3 l6 l7) (D8 : Del (L + 1 + 1) o2 l7 l8) (D9 : Del (L + 1) o1 l8 rest) (d1 : o1.data = .cell v1) (d2 : o2.data = .cell v2) (d3 : o3.data = .cell v3) (d4 : o4.data = .cell v4) (d5 : o5.data = .cell v5) (d6 : o6.data = .cell v6) (d7 : o7.data = .cell v7) (hv1 : v1 = some (.ref P)) (hv : IntsAre vs ns) (hl : ns.length ≤ 40) (hk0 : 0 ≤ k) (hk1 : k ≤ K) (z : Z mm v2 rest) :
    ∃ small, (∀ p ∈ small, p ∈ all) ∧ JB K Z L mm small := by
  obtain ⟨a1, b1, c1⟩ := D1.facts
  obtain ⟨a2, b2, c2⟩ := D2.facts
  obtain ⟨a3, b3, c3⟩ := D3.facts
  obtain ⟨a4, b4, c4⟩ := D4.facts
  obtain ⟨a5, b5, c5⟩ := D5.facts
  obtain ⟨a6, b6, c6⟩ := D6.facts
  obtain ⟨a7, b7, c7⟩ := D7.facts
  obtain ⟨a8, b8, c8⟩ := D8.facts
  obtain ⟨a9, b9, c9⟩ := D9.facts
  refine ⟨(P, pressObj S k t c) :: (S, listObj vs e2) :: (L + 1 + 1 + 1 + 1 + 1 + 1 + 1, o7) :: (L + 1 + 1 + 1 + 1 + 1 + 1, o6) :: (L + 1 + 1 + 1 + 1 + 1, o5) :: (L + 1 + 1 + 1 + 1, o4) :: (L + 1 + 1 + 1, o3) :: (L + 1 + 1, o2) :: (L + 1, o1) :: rest, fun p hp => ?_, P, S, vs, ns, k, t, c, e2, o1, o2, o3, o4, o5, o6, o7, v1, v2, v3, v4, v5, v6, v7, rest, d1, d2, d3, d4, d5, d6, d7, hv1, rfl, hv, hl, hk0, hk1, c1 _ a2, c1 _ (b2 _ (b3 _ (b4 _ (b5 _ (b6 _ (b7 _ (b8 _ a9))))))), c1 _ (b2 _ (b3 _ (b4 _ (b5 _ (b6 _ (b7 _ a8)))))), c1 _ (b2 _ (b3 _ (b4 _ (b5 _ (b6 _ a7))))), c1 _ (b2 _ (b3 _ (b4 _ (b5 _ a6)))), c1 _ (b2 _ (b3 _ (b4 _ a5))), c1 _ (b2 _ (b3 _ a4)), c1 _ (b2 _ a3), Ne.symm (c1 _ (b2 _ (b3 _ (b4 _ (b5 _ (b6 _ (b7 _ (b8 _ a9)))))))), Ne.symm (c1 _ (b2 _ (b3 _ (b4 _ (b5 _ (b6 _ (b7 _ a8))))))), Ne.symm (c1 _ (b2 _ (b3 _ (b4 _ (b5 _ (b6 _ a7)))))), Ne.symm (c1 _ (b2 _ (b3 _ (b4 _ (b5 _ a6))))), Ne.symm (c1 _ (b2 _ (b3 _ (b4 _ a5)))), Ne.symm (c1 _ (b2 _ (b3 _ a4))), Ne.symm (c1 _ (b2 _ a3)), Ne.symm (c2 _ (b3 _ (b4 _ (b5 _ (b6 _ (b7 _ (b8 _ a9))))))), Ne.symm (c2 _ (b3 _ (b4 _ (b5 _ (b6 _ (b7 _ a8)))))), Ne.symm (c2 _ (b3 _ (b4 _ (b5 _ (b6 _ a7))))), Ne.symm (c2 _ (b3 _ (b4 _ (b5 _ a6)))), Ne.symm (c2 _ (b3 _ (b4 _ a5))), Ne.symm (c2 _ (b3 _ a4)), Ne.symm (c2 _ a3), fun p hp => c9 _ hp, fun p hp => c8 _ (b9 _ hp), fun p hp => c7 _ (b8 _ (b9 _ hp)), fun p hp => c6 _ (b7 _ (b8 _ (b9 _ hp))), fun p hp => c5 _ (b6 _ (b7 _ (b8 _ (b9 _ hp)))), fun p hp => c4 _ (b5 _ (b6 _ (b7 _ (b8 _ (b9 _ hp))))), fun p hp => c3 _ (b4 _ (b5 _ (b6 _ (b7 _ (b8 _ (b9 _ hp)))))), fun p hp => c2 _ (b3 _ (b4 _ (b5 _ (b6 _ (b7 _ (b8 _ (b9 _ hp))))))), fun p hp => c1 _ (b2 _ (b3 _ (b4 _ (b5 _ (b6 _ (b7 _ (b8 _ (b9 _ hp)))))))), z⟩
  ·
    rcases List.mem_cons.mp hp with rfl | hp; exact a1
    rcases List.mem_cons.mp hp with rfl | hp; exact (b1 _ a2)
    rcases List.mem_cons.mp hp with rfl | hp; exact (b1 _ (b2 _ a3))
    rcases List.mem_cons.mp hp with rfl | hp; exact (b1 _ (b2 _ (b3 _ a4)))
    rcases List.mem_cons.mp hp with rfl | hp; exact (b1 _ (b2 _ (b3 _ (b4 _ a5))))
    rcases List.mem_cons.mp hp with rfl | hp; exact (b1 _ (b2 _ (b3 _ (b4 _ (b5 _ a6)))))
    rcases List.mem_cons.mp hp with rfl | hp; exact (b1 _ (b2 _ (b3 _ (b4 _ (b5 _ (b6 _ a7))))))
    rcases List.mem_cons.mp hp with rfl | hp; exact (b1 _ (b2 _ (b3 _ (b4 _ (b5 _ (b6 _ (b7 _ a8)))))))
    rcases List.mem_cons.mp hp with rfl | hp; exact (b1 _ (b2 _ (b3 _ (b4 _ (b5 _ (b6 _ (b7 _ (b8 _ a9))))))))
    exact (b1 _ (b2 _ (b3 _ (b4 _ (b5 _ (b6 _ (b7 _ (b8 _ (b9 _ hp)))))))))
theorem jb_pre {L P S : Addr} {vs : List Value} {c2 : Nat} {o1 o2 o3 o4 o5 o6 o7 : Obj} (a : @Ne Nat S P) (b1 : @Ne Nat (L + 1) P) (b2 : @Ne Nat (L + 1 + 1) P) (b3 : @Ne Nat (L + 1 + 1 + 1) P) (b4 : @Ne Nat (L + 1 + 1 + 1 + 1) P) (b5 : @Ne Nat (L + 1 + 1 + 1 + 1 + 1) P) (b6 : @Ne Nat (L + 1 + 1 + 1 + 1 + 1 + 1) P) (b7 : @Ne Nat (L + 1 + 1 + 1 + 1 + 1 + 1 + 1) P) : ∀ q ∈ (S, listObj vs c2) :: (L + 1 + 1 + 1 + 1 + 1 + 1 + 1, o7) :: (L + 1 + 1 + 1 + 1 + 1 + 1, o6) :: (L + 1 + 1 + 1 + 1 + 1, o5) :: (L + 1 + 1 + 1 + 1, o4) :: (L + 1 + 1 + 1, o3) :: (L + 1 + 1, o2) :: (L + 1, o1) :: [], q.1 ≠ P := by
  intro p hp
  rcases List.mem_cons.mp hp with rfl | hp; exact a
  rcases List.mem_cons.mp hp with rfl | hp; exact b7
  rcases List.mem_cons.mp hp with rfl | hp; exact b6
  rcases List.mem_cons.mp hp with rfl | hp; exact b5
  rcases List.mem_cons.mp hp with rfl | hp; exact b4
  rcases List.mem_cons.mp hp with rfl | hp; exact b3
  rcases List.mem_cons.mp hp with rfl | hp; exact b2
  rcases List.mem_cons.mp hp with rfl | hp; exact b1
  cases hp
theorem jb_off {L P S : Addr} {vs : List Value} {c2 : Nat} {o1 o2 o3 o4 o5 o6 o7 : Obj} {oP : Obj} {rest : List (Addr × Obj)} (a : ∀ p ∈ rest, p.1 ≠ S) (b : ∀ p ∈ rest, p.1 ≠ P) (b1 : ∀ p ∈ rest, p.1 ≠ L + 1) (b2 : ∀ p ∈ rest, p.1 ≠ L + 1 + 1) (b3 : ∀ p ∈ rest, p.1 ≠ L + 1 + 1 + 1) (b4 : ∀ p ∈ rest, p.1 ≠ L + 1 + 1 + 1 + 1) (b5 : ∀ p ∈ rest, p.1 ≠ L + 1 + 1 + 1 + 1 + 1) (b6 : ∀ p ∈ rest, p.1 ≠ L + 1 + 1 + 1 + 1 + 1 + 1) (b7 : ∀ p ∈ rest, p.1 ≠ L + 1 + 1 + 1 + 1 + 1 + 1 + 1) : ∀ p ∈ rest, ∀ q ∈ (P, oP) :: (S, listObj vs c2) :: (L + 1 + 1 + 1 + 1 + 1 + 1 + 1, o7) :: (L + 1 + 1 + 1 + 1 + 1 + 1, o6) :: (L + 1 + 1 + 1 + 1 + 1, o5) :: (L + 1 + 1 + 1 + 1, o4) :: (L + 1 + 1 + 1, o3) :: (L + 1 + 1, o2) :: (L + 1, o1) :: [], q.1 ≠ p.1 := by
  intro p hq q hp
  rcases List.mem_cons.mp hp with rfl | hp; exact Ne.symm (b p hq)
  rcases List.mem_cons.mp hp with rfl | hp; exact Ne.symm (a p hq)
  rcases List.mem_cons.mp hp with rfl | hp; exact Ne.symm (b7 p hq)
  rcases List.mem_cons.mp hp with rfl | hp; exact Ne.symm (b6 p hq)
  rcases List.mem_cons.mp hp with rfl | hp; exact Ne.symm (b5 p hq)
  rcases List.mem_cons.mp hp with rfl | hp; exact Ne.symm (b4 p hq)
  rcases List.mem_cons.mp hp with rfl | hp; exact Ne.symm (b3 p hq)
  rcases List.mem_cons.mp hp with rfl | hp; exact Ne.symm (b2 p hq)
  rcases List.mem_cons.mp hp with rfl | hp; exact Ne.symm (b1 p hq)
  cases hp
theorem jb_back {L P S : Addr} {vs : List Value} {c2 : Nat} {o1 o2 o3 o4 o5 o6 o7 : Obj} {oP : Obj} {rest : List (Addr × Obj)} (h : ∀ p ∈ rest, ∀ q ∈ (P, oP) :: (S, listObj vs c2) :: (L + 1 + 1 + 1 + 1 + 1 + 1 + 1, o7) :: (L + 1 + 1 + 1 + 1 + 1 + 1, o6) :: (L + 1 + 1 + 1 + 1 + 1, o5) :: (L + 1 + 1 + 1 + 1, o4) :: (L + 1 + 1 + 1, o3) :: (L + 1 + 1, o2) :: (L + 1, o1) :: [], q.1 ≠ p.1) : (∀ p ∈ rest, p.1 ≠ S) ∧ (∀ p ∈ rest, p.1 ≠ P) ∧ (∀ p ∈ rest, p.1 ≠ L + 1) ∧ (∀ p ∈ rest, p.1 ≠ L + 1 + 1) ∧ (∀ p ∈ rest, p.1 ≠ L + 1 + 1 + 1) ∧ (∀ p ∈ rest, p.1 ≠ L + 1 + 1 + 1 + 1) ∧ (∀ p ∈ rest, p.1 ≠ L + 1 + 1 + 1 + 1 + 1) ∧ (∀ p ∈ rest, p.1 ≠ L + 1 + 1 + 1 + 1 + 1 + 1) ∧ (∀ p ∈ rest, p.1 ≠ L + 1 + 1 + 1 + 1 + 1 + 1 + 1) := by
  have g : ∀ x o, (x, o) ∈ (P, oP) :: (S, listObj vs c2) :: (L + 1 + 1 + 1 + 1 + 1 + 1 + 1, o7) :: (L + 1 + 1 + 1 + 1 + 1 + 1, o6) :: (L + 1 + 1 + 1 + 1 + 1, o5) :: (L + 1 + 1 + 1 + 1, o4) :: (L + 1 + 1 + 1, o3) :: (L + 1 + 1, o2) :: (L + 1, o1) :: [] → ∀ p ∈ rest, p.1 ≠ x := fun x o hx p hp => Ne.symm (h p hp (x, o) hx)
  refine ⟨g _ (listObj vs c2) (.tail _ (.head _)), g _ oP (.head _), g _ o1 (.tail _ (.tail _ (.tail _ (.tail _ (.tail _ (.tail _ (.tail _ (.tail _ (.head _))))))))), g _ o2 (.tail _ (.tail _ (.tail _ (.tail _ (.tail _ (.tail _ (.tail _ (.head _)))))))), g _ o3 (.tail _ (.tail _ (.tail _ (.tail _ (.tail _ (.tail _ (.head _))))))), g _ o4 (.tail _ (.tail _ (.tail _ (.tail _ (.tail _ (.head _)))))), g _ o5 (.tail _ (.tail _ (.tail _ (.tail _ (.head _))))), g _ o6 (.tail _ (.tail _ (.tail _ (.head _)))), g _ o7 (.tail _ (.tail _ (.head _)))⟩
inductive JC (Z : (Str → Option Value) → Option Value → Option Value → Option Value → Option Value → Option Value → Option Value → Option Value → List (Addr × Obj) → Prop) (L : Addr) (mm : Str → Option Value) (nw : List (Addr × Obj)) : Prop
  | mk (o1 o2 o3 o4 o5 o6 o7 : Obj) (v1 v2 v3 v4 v5 v6 v7 : Option Value) (rest : List (Addr × Obj)) (f0 : o1.data = .cell v1) (f1 : o2.data = .cell v2) (f2 : o3.data = .cell v3) (f3 : o4.data = .cell v4) (f4 : o5.data = .cell v5) (f5 : o6.data = .cell v6) (f6 : o7.data = .cell v7) (f7 : nw = (L + 1 + 1 + 1 + 1 + 1 + 1 + 1, o7) :: (L + 1 + 1 + 1 + 1 + 1 + 1, o6) :: (L + 1 + 1 + 1 + 1 + 1, o5) :: (L + 1 + 1 + 1 + 1, o4) :: (L + 1 + 1 + 1, o3) :: (L + 1 + 1, o2) :: (L + 1, o1) :: rest) (f8 : (∀ p ∈ rest, p.1 ≠ L + 1)) (f9 : (∀ p ∈ rest, p.1 ≠ L + 1 + 1)) (f10 : (∀ p ∈ rest, p.1 ≠ L + 1 + 1 + 1)) (f11 : (∀ p ∈ rest, p.1 ≠ L + 1 + 1 + 1 + 1)) (f12 : (∀ p ∈ rest, p.1 ≠ L + 1 + 1 + 1 + 1 + 1)) (f13 : (∀ p ∈ rest, p.1 ≠ L + 1 + 1 + 1 + 1 + 1 + 1)) (f14 : (∀ p ∈ rest, p.1 ≠ L + 1 + 1 + 1 + 1 + 1 + 1 + 1)) (f15 : Z mm v1 v2 v3 v4 v5 v6 v7 rest) : JC Z L mm nw
theorem JC.intro {Z : (Str → Option Value) → Option Value → Option Value → Option Value → Option Value → Option Value → Option Value → Option Value → List (Addr × Obj) → Prop} {L : Addr} {o1 o2 o3 o4 o5 o6 o7 : Obj} {v1 v2 v3 v4 v5 v6 v7 : Option Value} {all l1 l2 l3 l4 l5 l6 rest : List (Addr × Obj)} {mm : Str → Option Value}
    (D1 : Del (L + 1 + 1 + 1 + 1 + 1 + 1 + 1) o7 all l1) (D2 : Del (L + 1 + 1 + 1 + 1 + 1 + 1) o6 l1 l2) (D3 : Del (L + 1 + 1 + 1 + 1 + 1) o5 l2 l3) (D4 : Del (L + 1 + 1 + 1 + 1) o4 l3 l4) (D5 : Del (L + 1 + 1 + 1) o3 l4 l5) (D6 : Del (L + 1 + 1) o2 l5 l6) (D7 : Del (L + 1) o1 l6 rest) (d1 : o1.data = .cell v1) (d2 : o2.data = .cell v2) (d3 : o3.data = .cell v3) (d4 : o4.data = .cell v4) (d5 : o5.data = .cell v5) (d6 : o6.data = .cell v6) (d7 : o7.data = .cell v7) (z : Z mm v1 v2 v3 v4 v5 v6 v7 rest) : ∃ small, (∀ p ∈ small, p ∈ all) ∧ JC Z L mm small := by
  obtain ⟨a1, b1, c1⟩ := D1.facts
  obtain ⟨a2, b2, c2⟩ := D2.facts
  obtain ⟨a3, b3, c3⟩ := D3.facts
  obtain ⟨a4, b4, c4⟩ := D4.facts
  obtain ⟨a5, b5, c5⟩ := D5.facts
  obtain ⟨a6, b6, c6⟩ := D6.facts
  obtain ⟨a7, b7, c7⟩ := D7.facts
  refine ⟨(L + 1 + 1 + 1 + 1 + 1 + 1 + 1, o7) :: (L + 1 + 1 + 1 + 1 + 1 + 1, o6) :: (L + 1 + 1 + 1 + 1 + 1, o5) :: (L + 1 + 1 + 1 + 1, o4) :: (L + 1 + 1 + 1, o3) :: (L + 1 + 1, o2) :: (L + 1, o1) :: rest, fun p hp => ?_, o1, o2, o3, o4, o5, o6, o7, v1, v2, v3, v4, v5, v6, v7, rest, d1, d2, d3, d4, d5, d6, d7, rfl, fun p hp => c7 _ hp, fun p hp => c6 _ (b7 _ hp), fun p hp => c5 _ (b6 _ (b7 _ hp)), fun p hp => c4 _ (b5 _ (b6 _ (b7 _ hp))), fun p hp => c3 _ (b4 _ (b5 _ (b6 _ (b7 _ hp)))), fun p hp => c2 _ (b3 _ (b4 _ (b5 _ (b6 _ (b7 _ hp))))), fun p hp => c1 _ (b2 _ (b3 _ (b4 _ (b5 _ (b6 _ (b7 _ hp)))))), z⟩
  ·
    rcases List.mem_cons.mp hp with rfl | hp; exact a1
    rcases List.mem_cons.mp hp with rfl | hp; exact (b1 _ a2)
    rcases List.mem_cons.mp hp with rfl | hp; exact (b1 _ (b2 _ a3))
    rcases List.mem_cons.mp hp with rfl | hp; exact (b1 _ (b2 _ (b3 _ a4)))
    rcases List.mem_cons.mp hp with rfl | hp; exact (b1 _ (b2 _ (b3 _ (b4 _ a5))))
    rcases List.mem_cons.mp hp with rfl | hp; exact (b1 _ (b2 _ (b3 _ (b4 _ (b5 _ a6)))))
    rcases List.mem_cons.mp hp with rfl | hp; exact (b1 _ (b2 _ (b3 _ (b4 _ (b5 _ (b6 _ a7))))))
    exact (b1 _ (b2 _ (b3 _ (b4 _ (b5 _ (b6 _ (b7 _ hp)))))))
end Mine
end
section
namespace Mine
def det2 (P : Nat → Nat → Rat) : Rat := P 0 0 * P 1 1 + -(P 0 1 * P 1 0)
def det3 (P : Nat → Nat → Rat) : Rat := P 0 0 * (P 1 1 * P 2 2 + -(P 1 2 * P 2 1)) + -(P 0 1 * (P 1 0 * P 2 2 + -(P 1 2 * P 2 0))) + P 0 2 * (P 1 0 * P 2 1 + -(P 1 1 * P 2 0))
def Sh2 (M : Nat → Nat → Rat) (a : Nat) (P : Nat → Nat → Rat) (f : Rat) : Prop :=
  f * det2 P = det2 M ∧ (∀ i j, i < 2 → j < a → P i j = if i = j then 1 else 0)
theorem sh2_0 (M) : Sh2 M 0 M 1 := ⟨by grind, fun i j _ h => absurd h (by omega)⟩
theorem sh2_sw (M) : ∀ a ld P f, a < 2 → a < ld → ld < 2 → Sh2 M a P f → Sh2 M a (swapP P a ld) (-f) := by
  intro a ld P f h1 h2 h3 ⟨h, g⟩
  obtain rfl : a = 0 := by omega
  obtain rfl : ld = 1 := by omega
  refine ⟨?_, fun i j _ h => absurd h (by omega)⟩
  simp only [det2, swapP] at *
  simp
  grind
theorem inv_mul {d : Rat} (h : d ≠ 0) : d * d⁻¹ = 1 := Rat.mul_inv_cancel _ h
theorem sh2_el (M) : ∀ a P f, a < 2 → Sh2 M a P f → P a a ≠ 0 → Sh2 M (a + 1) (elimP P a 2) (f * P a a) := by
  intro a P f h1 ⟨h, g⟩ hn
  have hi := inv_mul hn
  have ha : a = 0 ∨ a = 1 := by omega
  rcases ha with rfl | rfl
  · refine ⟨?_, ?_⟩
    · simp [det2, elimP, Rat.div_def] at *
      grind
    · intro i j hi' hj
      have : j = 0 := by omega
      have hi2 : i = 0 ∨ i = 1 := by omega
      subst this
      rcases hi2 with rfl | rfl <;> simp [elimP, Rat.div_def] <;> grind
  · have e0 := g 0 0 (by decide) (by decide)
    have e1 := g 1 0 (by decide) (by decide)
    simp at e0 e1
    refine ⟨?_, ?_⟩
    · simp [det2, elimP, Rat.div_def] at *
      grind
    · intro i j hi' hj
      have hj2 : j = 0 ∨ j = 1 := by omega
      have hi2 : i = 0 ∨ i = 1 := by omega
      rcases hi2 with rfl | rfl <;> rcases hj2 with rfl | rfl <;> simp [elimP, Rat.div_def] <;> grind
theorem sh2_end {M P : Nat → Nat → Rat} {q : Rat} (h : Sh2 M 2 P q) : q = det2 M := by
  obtain ⟨h, g⟩ := h
  have e0 := g 0 0 (by decide) (by decide)
  have e1 := g 1 0 (by decide) (by decide)
  have e2 := g 0 1 (by decide) (by decide)
  have e3 := g 1 1 (by decide) (by decide)
  simp at e0 e1 e2 e3
  simp only [det2, e0, e1, e2, e3] at h ⊢
  grind
theorem sh2_nought {M P : Nat → Nat → Rat} {a : Nat} {f : Rat} (ha : a < 2) (h : Sh2 M a P f) (hz : ∀ i, a ≤ i → i < 2 → P i a = 0) : det2 M = 0 := by
  obtain ⟨h, g⟩ := h
  have ha : a = 0 ∨ a = 1 := by omega
  rcases ha with rfl | rfl
  · have z0 := hz 0 (by decide) (by decide)
    have z1 := hz 1 (by decide) (by decide)
    rw [← h]; simp only [det2, z0, z1]; grind
  · have z1 := hz 1 (by decide) (by decide)
    have e1 := g 1 0 (by decide) (by decide)
    simp at e1
    rw [← h]; simp only [det2, z1, e1]; grind
theorem taken2_det {M P : Nat → Nat → Rat} {q : Rat} (h : Sh2 M 2 P q ∨ q = 0 ∧ ∃ a P' f', a < 2 ∧ Sh2 M a P' f' ∧ ∀ i, a ≤ i → i < 2 → P' i a = 0) : q = det2 M := by
  rcases h with h | ⟨rfl, a, P', f', h1, h2, h3⟩
  · exact sh2_end h
  · exact (sh2_nought h1 h2 h3).symm
def Sol (P : Nat → Nat → Rat) (x y z : Rat) : Prop := ∀ i, i < 3 → P i 0 * x + P i 1 * y + P i 2 * z = P i 3
def Sh3 (M : Nat → Nat → Rat) (a : Nat) (P : Nat → Nat → Rat) (f : Rat) : Prop :=
  f * det3 P = det3 M ∧ (∀ i j, i < 3 → j < a → P i j = if i = j then 1 else 0) ∧ ∀ x y z, Sol M x y z → Sol P x y z
theorem sh3_0 (M) : Sh3 M 0 M 1 := ⟨by grind, fun i j _ h => absurd h (by omega), fun _ _ _ h => h⟩
theorem sol_sw {P : Nat → Nat → Rat} {a b : Nat} {x y z : Rat} (ha : a < 3) (hb : b < 3) (h : Sol P x y z) : Sol (swapP P a b) x y z := by
  intro i hi
  unfold swapP
  split
  · exact h b hb
  · split
    · exact h a ha
    · exact h i hi
theorem sol_el {P : Nat → Nat → Rat} {a : Nat} {x y z : Rat} (ha : a < 3) (hn : P a a ≠ 0) (h : Sol P x y z) : Sol (elimP P a 3) x y z := by
  intro i hi
  have hd := inv_mul hn
  have h1 := h a ha
  have h2 := h i hi
  unfold elimP
  by_cases e : i = a
  · subst e
    simp only [if_true, Rat.div_def]
    grind
  · simp only [if_neg e, if_pos hi, Rat.div_def]
    grind
theorem sh3_sw (M) : ∀ a ld P f, a < 3 → a < ld → ld < 3 → Sh3 M a P f → Sh3 M a (swapP P a ld) (-f) := by
  intro a ld P f h1 h2 h3 ⟨h, g, k⟩
  refine ⟨?_, ?_, fun x y z hs => sol_sw h1 h3 (k x y z hs)⟩
  · have hc : (a = 0 ∧ ld = 1) ∨ (a = 0 ∧ ld = 2) ∨ (a = 1 ∧ ld = 2) := by omega
    rcases hc with ⟨rfl, rfl⟩ | ⟨rfl, rfl⟩ | ⟨rfl, rfl⟩ <;> simp only [det3, swapP] at * <;> simp <;> grind
  · intro i j hi hj
    unfold swapP
    have ga := g a j h1 hj
    have gl := g ld j h3 hj
    rw [if_neg (by omega)] at ga gl
    split
    · rw [gl, if_neg (by omega)]
    · split
      · rw [ga, if_neg (by omega)]
      · exact g i j hi hj
theorem el_cols {P : Nat → Nat → Rat} {a : Nat} (ha : a < 3) (hn : P a a ≠ 0) (g : ∀ i j, i < 3 → j < a → P i j = if i = j then 1 else 0) : ∀ i j, i < 3 → j < a + 1 → elimP P a 3 i j = if i = j then 1 else 0 := by
  intro i j hi hj
  have hd := inv_mul hn
  unfold elimP
  by_cases e : j = a
  · subst e
    by_cases e2 : i = j
    · subst e2; simp only [if_true, Rat.div_def]; exact hd
    · simp only [if_neg e2, if_pos hi, Rat.div_def]; grind
  · have g1 := g a j ha (by omega)
    have g2 := g i j hi (by omega)
    rw [if_neg (by omega)] at g1
    by_cases e2 : i = a
    · subst e2
      simp only [if_true, Rat.div_def, g1]; rw [if_neg (by omega)]; grind
    · simp only [if_neg e2, if_pos hi, Rat.div_def, g1, g2]; grind
theorem sh3_el (M) : ∀ a P f, a < 3 → Sh3 M a P f → P a a ≠ 0 → Sh3 M (a + 1) (elimP P a 3) (f * P a a) := by
  intro a P f h1 ⟨h, g, k⟩ hn
  refine ⟨?_, el_cols h1 hn g, fun x y z hs => sol_el h1 hn (k x y z hs)⟩
  have hd := inv_mul hn
  have ha : a = 0 ∨ a = 1 ∨ a = 2 := by omega
  rcases ha with rfl | rfl | rfl
  · simp [det3, elimP, Rat.div_def] at *
    grind
  · have e0 := g 0 0 (by decide) (by decide)
    have e1 := g 1 0 (by decide) (by decide)
    have e2 := g 2 0 (by decide) (by decide)
    simp at e0 e1 e2
    clear g k
    simp [det3, elimP, Rat.div_def, e0, e1, e2] at *
    grind
  · have e0 := g 0 0 (by decide) (by decide)
    have e1 := g 1 0 (by decide) (by decide)
    have e2 := g 2 0 (by decide) (by decide)
    have e3 := g 0 1 (by decide) (by decide)
    have e4 := g 1 1 (by decide) (by decide)
    have e5 := g 2 1 (by decide) (by decide)
    simp at e0 e1 e2 e3 e4 e5
    clear g k
    simp [det3, elimP, Rat.div_def, e0, e1, e2, e3, e4, e5] at *
    grind
theorem sh3_end {M P : Nat → Nat → Rat} {q : Rat} (h : Sh3 M 3 P q) : q = det3 M := by
  obtain ⟨h, g, -⟩ := h
  have e0 := g 0 0 (by decide) (by decide)
  have e1 := g 1 0 (by decide) (by decide)
  have e2 := g 2 0 (by decide) (by decide)
  have e3 := g 0 1 (by decide) (by decide)
  have e4 := g 1 1 (by decide) (by decide)
  have e5 := g 2 1 (by decide) (by decide)
  have e6 := g 0 2 (by decide) (by decide)
  have e7 := g 1 2 (by decide) (by decide)
  have e8 := g 2 2 (by decide) (by decide)
  simp at e0 e1 e2 e3 e4 e5 e6 e7 e8
  simp only [det3, e0, e1, e2, e3, e4, e5, e6, e7, e8] at h ⊢
  grind
theorem sh3_sol {M P : Nat → Nat → Rat} {q x y z : Rat} (h : Sh3 M 3 P q) (hs : Sol M x y z) : P 0 3 = x ∧ P 1 3 = y ∧ P 2 3 = z := by
  obtain ⟨-, g, k⟩ := h
  have s := k x y z hs
  have s0 := s 0 (by decide)
  have s1 := s 1 (by decide)
  have s2 := s 2 (by decide)
  have e0 := g 0 0 (by decide) (by decide)
  have e1 := g 1 0 (by decide) (by decide)
  have e2 := g 2 0 (by decide) (by decide)
  have e3 := g 0 1 (by decide) (by decide)
  have e4 := g 1 1 (by decide) (by decide)
  have e5 := g 2 1 (by decide) (by decide)
  have e6 := g 0 2 (by decide) (by decide)
  have e7 := g 1 2 (by decide) (by decide)
  have e8 := g 2 2 (by decide) (by decide)
  simp at e0 e1 e2 e3 e4 e5 e6 e7 e8
  simp only [e0, e1, e2, e3, e4, e5, e6, e7, e8] at s0 s1 s2
  grind
theorem sh3_nought {M P : Nat → Nat → Rat} {a : Nat} {f : Rat} (ha : a < 3) (h : Sh3 M a P f) (hz : ∀ i, a ≤ i → i < 3 → P i a = 0) : det3 M = 0 := by
  obtain ⟨h, g, -⟩ := h
  have ha : a = 0 ∨ a = 1 ∨ a = 2 := by omega
  rw [← h]
  rcases ha with rfl | rfl | rfl
  · have z0 := hz 0 (by decide) (by decide)
    have z1 := hz 1 (by decide) (by decide)
    have z2 := hz 2 (by decide) (by decide)
    simp only [det3, z0, z1, z2]; grind
  · have z1 := hz 1 (by decide) (by decide)
    have z2 := hz 2 (by decide) (by decide)
    have e1 := g 1 0 (by decide) (by decide)
    have e2 := g 2 0 (by decide) (by decide)
    simp at e1 e2
    simp only [det3, z1, z2, e1, e2]; grind
  · have z2 := hz 2 (by decide) (by decide)
    have e2 := g 2 0 (by decide) (by decide)
    have e5 := g 2 1 (by decide) (by decide)
    simp at e2 e5
    simp only [det3, z2, e2, e5]; grind
def TakenR3 (M P : Nat → Nat → Rat) (q : Rat) : Prop := Sh3 M 3 P q ∨ q = 0 ∧ ∃ a P' f', a < 3 ∧ Sh3 M a P' f' ∧ ∀ i, a ≤ i → i < 3 → P' i a = 0
theorem taken3_det {M P : Nat → Nat → Rat} {q : Rat} (h : TakenR3 M P q) : q = det3 M := by
  rcases h with h | ⟨rfl, a, P', f', h1, h2, h3⟩
  · exact sh3_end h
  · exact (sh3_nought h1 h2 h3).symm
theorem taken3_sol {M P : Nat → Nat → Rat} {q x y z : Rat} (h : TakenR3 M P q) (hd : det3 M ≠ 0) (hs : Sol M x y z) : P 0 3 = x ∧ P 1 3 = y ∧ P 2 3 = z := by
  rcases h with h | ⟨_, a, P', f', h1, h2, h3⟩
  · exact sh3_sol h hs
  · exact absurd (sh3_nought h1 h2 h3) hd
def aug (r : Nat → Nat → Rat) (b : Nat → Rat) : Nat → Nat → Rat := fun i j => if j < 3 then r i j else b i
def cram (r : Nat → Nat → Rat) (b : Nat → Rat) (k : Nat) : Nat → Nat → Rat := fun i j => if j = k then b i else r i j
theorem det_aug {r : Nat → Nat → Rat} {b : Nat → Rat} : det3 (aug r b) = det3 r := by simp [det3, aug]
theorem cramer0 {r : Nat → Nat → Rat} {b : Nat → Rat} {i : Nat} (hi : i < 3) : r i 0 * det3 (cram r b 0) + r i 1 * det3 (cram r b 1) + r i 2 * det3 (cram r b 2) = b i * det3 r := by
  have hc : i = 0 ∨ i = 1 ∨ i = 2 := by omega
  rcases hc with rfl | rfl | rfl <;> simp [det3, cram] <;> grind
theorem cramer {r : Nat → Nat → Rat} {b : Nat → Rat} (hd : det3 r ≠ 0) : Sol (aug r b) (det3 (cram r b 0) / det3 r) (det3 (cram r b 1) / det3 r) (det3 (cram r b 2) / det3 r) := by
  have hi := inv_mul hd
  intro i hi3
  have h := cramer0 (r := r) (b := b) hi3
  simp only [Rat.div_def, aug] at *
  simp
  generalize det3 r = d at *
  generalize d⁻¹ = u at *
  grind
theorem det2_mul {p q : Nat → Nat → Rat} : (p 0 0 * q 0 0 + p 0 1 * q 1 0) * (p 1 0 * q 0 1 + p 1 1 * q 1 1) + -((p 0 0 * q 0 1 + p 0 1 * q 1 1) * (p 1 0 * q 0 0 + p 1 1 * q 1 0)) = det2 p * det2 q := by
  simp only [det2]; grind
theorem det2_turn {p : Nat → Nat → Rat} : p 1 0 * p 0 1 + -(p 1 1 * p 0 0) = -det2 p := by
  simp only [det2]; grind
theorem det2_often {q : Nat → Nat → Rat} {o : Rat} : (o * q 0 0) * (o * q 1 1) + -((o * q 0 1) * (o * q 1 0)) = o * o * det2 q := by
  simp only [det2]; grind
end Mine
namespace Mine
theorem mul_den {q : Rat} : q * ((q.den : Int) : Rat) = (q.num : Rat) := by
  have h : Rat.divInt q.num q.den = q := Rat.num_divInt_den q
  have hd : ((q.den : Int) : Rat) ≠ 0 := fun e => q.den_nz (by exact_mod_cast e)
  rw [Rat.divInt_eq_div] at h
  have hi := Rat.mul_inv_cancel _ hd
  rw [Rat.div_def] at h
  generalize ((q.den : Int) : Rat) = d at *
  generalize (q.num : Rat) = n at *
  generalize d⁻¹ = u at *
  grind
theorem fdiv_mul {d c : Int} (h : d ≠ 0) : (d * c).fdiv d = c := Int.mul_fdiv_cancel_left _ h
theorem num_times {q : Rat} {m : Int} (h : (q.den : Int) ∣ m) : ((q.num * m.fdiv q.den : Int) : Rat) = (m : Rat) * q := by
  obtain ⟨c, rfl⟩ := h
  rw [fdiv_mul (by have := q.den_nz; omega), Rat.intCast_mul, Rat.intCast_mul, ← mul_den]
  grind
theorem whole_law {r0 r1 r2 x y z b : Rat} (h0 : r0.den ∣ 6) (h1 : r1.den ∣ 6) (h2 : r2.den ∣ 6) (hb : b.den = 1) (hs : r0 * x + r1 * y + r2 * z = b) {most : Int} (hm : most = x.den * y.den * z.den) :
    0 + r0.num * (6 : Int).fdiv r0.den * x.num * most.fdiv x.den + r1.num * (6 : Int).fdiv r1.den * y.num * most.fdiv y.den + r2.num * (6 : Int).fdiv r2.den * z.num * most.fdiv z.den = b.num * 6 * most := by
  apply Rat.intCast_inj.mp
  have a0 := num_times (q := r0) (m := 6) (by exact_mod_cast Int.natCast_dvd_natCast.mpr h0)
  have a1 := num_times (q := r1) (m := 6) (by exact_mod_cast Int.natCast_dvd_natCast.mpr h1)
  have a2 := num_times (q := r2) (m := 6) (by exact_mod_cast Int.natCast_dvd_natCast.mpr h2)
  have m0 := num_times (q := x) (m := most) ⟨(y.den : Int) * z.den, by rw [hm]; grind⟩
  have m1 := num_times (q := y) (m := most) ⟨(x.den : Int) * z.den, by rw [hm]; grind⟩
  have m2 := num_times (q := z) (m := most) ⟨(x.den : Int) * y.den, by rw [hm]; grind⟩
  have eb : (b.num : Rat) = b := by
    have := mul_den (q := b)
    rw [hb] at this
    rw [← this]; grind
  simp only [Rat.intCast_mul, Rat.intCast_add] at *
  rw [eb]
  grind
theorem rnd_near (p : Rat) : 2 * p.num - 2 * rndR p * p.den ≤ p.den ∧ -(p.den : Int) ≤ 2 * p.num - 2 * rndR p * p.den := by
  have hd : 0 < (p.den : Int) := by have := p.den_nz; omega
  have key : ∀ n d : Int, 0 < d → 2 * n - 2 * ((2 * n + d).fdiv (2 * d)) * d ≤ d ∧ -d ≤ 2 * n - 2 * ((2 * n + d).fdiv (2 * d)) * d := by
    intro n d hd
    rw [Int.fdiv_eq_ediv_of_nonneg _ (by omega)]
    have e1 := Int.emod_add_mul_ediv (2 * n + d) (2 * d)
    have e2 := Int.emod_nonneg (2 * n + d) (b := 2 * d) (by omega)
    have e3 := Int.emod_lt_of_pos (2 * n + d) (b := 2 * d) (by omega)
    generalize (2 * n + d) / (2 * d) = q at *
    generalize (2 * n + d) % (2 * d) = r at *
    have : 2 * q * d = 2 * d * q := by grind
    omega
  unfold rndR
  split
  · have := key (-p.num) p.den hd
    rw [Int.mul_neg 2, Int.neg_mul]
    omega
  · have := key p.num p.den hd
    omega
theorem den_posR (p : Rat) : (0 : Rat) < ((p.den : Int) : Rat) := by
  have : 0 < (p.den : Int) := by have := p.den_nz; omega
  exact_mod_cast this
theorem rnd_le (p : Rat) : p - (rndR p : Rat) ≤ 1 / 2 := by
  have h := (rnd_near p).1
  have hd := den_posR p
  have e := mul_den (q := p)
  have h2 : ((2 * p.num - 2 * rndR p * p.den : Int) : Rat) ≤ ((p.den : Int) : Rat) := Rat.intCast_le_intCast.mpr h
  rw [Rat.intCast_sub, Rat.intCast_mul, Rat.intCast_mul, Rat.intCast_mul, ← e] at h2
  apply Rat.not_lt.mp
  intro hc
  have h3 : (0 : Rat) < (p - (rndR p : Rat) - 1 / 2) * ((p.den : Int) : Rat) := Rat.mul_pos (by grind) hd
  grind
theorem rnd_ge (p : Rat) : -(1 / 2) ≤ p - (rndR p : Rat) := by
  have h := (rnd_near p).2
  have hd := den_posR p
  have e := mul_den (q := p)
  have h2 : ((-(p.den : Int) : Int) : Rat) ≤ ((2 * p.num - 2 * rndR p * p.den : Int) : Rat) := Rat.intCast_le_intCast.mpr h
  rw [Rat.intCast_sub, Rat.intCast_mul, Rat.intCast_mul, Rat.intCast_mul, ← e, Rat.intCast_neg] at h2
  apply Rat.not_lt.mp
  intro hc
  have h3 : (0 : Rat) < (-(1/2) - (p - (rndR p : Rat))) * ((p.den : Int) : Rat) := Rat.mul_pos (by grind) hd
  grind
end Mine
end
section
open PySem PySem.W PyProof.Rows PySem.Calls PySem.Spec PyProof.V
set_option Elab.async false
set_option maxRecDepth 100000
set_option maxHeartbeats 8000000
namespace Mine
section
variable {prog : Program} {w : World} {A : Around} {E : Value → Shared → Prop} {s : Shared} {h₀ : Heap} {L a b : Addr} {news : List (Addr × Obj)} {p q : Rat} {n1 n2 d1 d2 : Int} {t1 t2 t3 t4 : Tok} {c1 c2 : Nat} {Q : Value → Shared → Prop}
theorem eqK_rats (N : News h₀ L s.heap news) (ha : (a, tup2 n1 t1 d1 t2 c1) ∈ news) (hb : (b, tup2 n2 t3 d2 t4 c2) ∈ news) (i1 : n1 = p.num) (i2 : d1 = p.den) (i3 : n2 = q.num) (i4 : d2 = q.den) (hu : A.units + 64 < cLine) (e : p = q) (h : Q (.bool true) s) :
    wpAny (model prog w) A (compareOp .Eq (.ref a) (.ref b)) Q E s :=
  eq_rats N ha hb i1 i2 i3 i4 hu (by rw [decide_eq_true e]; exact h)
theorem neK_rats (N : News h₀ L s.heap news) (ha : (a, tup2 n1 t1 d1 t2 c1) ∈ news) (hb : (b, tup2 n2 t3 d2 t4 c2) ∈ news) (i1 : n1 = p.num) (i2 : d1 = p.den) (i3 : n2 = q.num) (i4 : d2 = q.den) (hu : A.units + 64 < cLine) (e : p = q) (h : Q (.bool false) s) :
    wpAny (model prog w) A (compareOp .NotEq (.ref a) (.ref b)) Q E s :=
  ne_rats N ha hb i1 i2 i3 i4 hu (by rw [decide_eq_true e]; exact h)
theorem neK_lists {l1 l2 a0 a1 a2 b0 b1 b2 : Addr} {k1 k2 e0 e1 e2 f0 f1 f2 : Nat} {x0 x1 x2 y0 y1 y2 : Rat} {s0 s1 s2 u0 u1 u2 r0 r1 r2 v0 v1 v2 : Tok} (N : News h₀ L s.heap news) (h1 : (l1, listObj [.ref a0, .ref a1, .ref a2] k1) ∈ news) (h2 : (l2, listObj [.ref b0, .ref b1, .ref b2] k2) ∈ news)
    (m0 : (a0, tup2 x0.num s0 x0.den u0 e0) ∈ news) (m1 : (a1, tup2 x1.num s1 x1.den u1 e1) ∈ news) (m2 : (a2, tup2 x2.num s2 x2.den u2 e2) ∈ news) (n0 : (b0, tup2 y0.num r0 y0.den v0 f0) ∈ news) (n1 : (b1, tup2 y1.num r1 y1.den v1 f1) ∈ news) (n2 : (b2, tup2 y2.num r2 y2.den v2 f2) ∈ news)
    (w0 : x0 = y0) (w1 : x1 = y1) (w2 : x2 = y2) (hu : A.units + 64 < cLine) (h : Q (.bool false) s) : wpAny (model prog w) A (compareOp .NotEq (.ref l1) (.ref l2)) Q E s := by
  subst w0 w1 w2
  have T : ∀ {a : Addr} {x : Rat} {t u : Tok} {k : Nat}, (a, tup2 x.num t x.den u k) ∈ news → Reads s.heap (.ref a) (.tuple [.int x.num, .int x.den]) [] := fun hm => reads_tuple_at (News.get N hm) rfl rfl (.cons (.int _ _) (.cons (.int _ _) .nil))
  refine ne_dataH (reads_list_at (News.get N h1) rfl rfl (.cons (T m0) (.cons (T m1) (.cons (T m2) .nil)))) (reads_list_at (News.get N h2) rfl rfl (.cons (T n0) (.cons (T n1) (.cons (T n2) .nil)))) rfl rfl hu ?_
  have e : PyData.eqv (.list [.tuple [.int x0.num, .int x0.den], .tuple [.int x1.num, .int x1.den], .tuple [.int x2.num, .int x2.den]]) (.list [.tuple [.int x0.num, .int x0.den], .tuple [.int x1.num, .int x1.den], .tuple [.int x2.num, .int x2.den]]) = true := by
    simp [PyData.eqv, PyData.eqvAll]
  rw [e]; exact h
end
section
variable {w : World} {mean : ExcName → Option Value} {mg mb : Str → Option Value} {news : List (Addr × Obj)}
  {dp un : Nat} {gd : Option (List Code)} {cn : Str} {cs : Scope} {a : Addr} {ccd : Value} {cl : List (Str × Addr)} {outer : List Env} {A₀ : Around} {base h₀ : Heap} {L : Addr} {m : Str → Option Value} {s : Shared} {Q E : Value → Shared → Prop}
theorem power_use {x : Addr} {p : Rat} {e : Nat} {n1 d1 : Int} {t1 t2 t3 : Tok} {c1 : Nat} (B : Below A₀ base outer h₀) (F : Fr h₀ L s.heap m) (X : (Hd.hd.heap_1 w.params).In h₀) (N : News h₀ L s.heap news) (T : Top Hd.hd.view_1 LO mean mg mb h₀) (hk : cs.kind = .function) (hd : dp + 4 < recursionLimit) (hu : un + 8 * 4 < cLine) (G : Great mg) (hx : (x, tup2 n1 t1 d1 t2 c1) ∈ news) (i1 : n1 = p.num) (i2 : d1 = p.den) (hp : Sz e p) (hs : 2 * e + 1 ≤ 2300)
    (ret : ∀ D u1 u2 c h' tk', Fr h₀ L h' m → News h₀ L h' ((D, tup2 (p * p).num u1 (p * p).den u2 c) :: news) → AllLt D news → Sz (e + e) (p * p) → Q (.ref D) { s with heap := h', toks := tk' }) :
    wpAny (model PR w) (ktrTop dp un gd cn cs L a ccd cl outer) (call (.ref 109) [.ref x, .int 2 t3]) Q E s :=
  use_rat (power_does w mean mg mb G news x p e n1 d1 t1 t2 t3 c1 i1 i2 hx hp hs) B F X N T hk hd hu fun D u1 u2 c h' tk' F' N' l => ret D u1 u2 c h' tk' F' N' l (Sz.mul hp hp)
theorem rounded_use {x : Addr} {p : Rat} {e : Nat} {n1 d1 : Int} {t1 t2 : Tok} {c1 : Nat} (B : Below A₀ base outer h₀) (F : Fr h₀ L s.heap m) (X : (Hd.hd.heap_1 w.params).In h₀) (N : News h₀ L s.heap news) (T : Top Hd.hd.view_1 LO mean mg mb h₀) (hk : cs.kind = .function) (hd : dp + 1 < recursionLimit) (hu : un + 8 * 1 < cLine) (hx : (x, tup2 n1 t1 d1 t2 c1) ∈ news) (i1 : n1 = p.num) (i2 : d1 = p.den) (hp : Sz e p) (hs : e ≤ 2300)
    (ret : ∀ u h' tk', Fr h₀ L h' m → News h₀ L h' news → Q (.int (rndR p) u) { s with heap := h', toks := tk' }) :
    wpAny (model PR w) (ktrTop dp un gd cn cs L a ccd cl outer) (call (.ref 123) [.ref x]) Q E s :=
  use_int (rounded_does w mean mg mb news x p e n1 d1 t1 t2 c1 i1 i2 hx hp hs) B F X N T hk hd hu fun u h' tk' F' N' => ret u h' tk' F' N'
end
end Mine
end
section
open PySem PySem.W PyProof.Rows PySem.Calls PySem.Spec PyProof.V
set_option Elab.async false
set_option maxRecDepth 100000
set_option maxHeartbeats 8000000
namespace Mine
theorem mem_sub {α : Type} {a : α} {l l' : List α} (h : ∀ p ∈ l, p ∈ l') (hm : a ∈ l) : a ∈ l' := h a hm
theorem grown {tl rest : List (Addr × Obj)} : ∃ rest2, rest2 = tl ++ rest ∧ (∀ p ∈ tl, p ∈ rest2) ∧ (∀ p ∈ rest, p ∈ rest2) := ⟨_, rfl, fun _ h => List.mem_append_left _ h, fun _ h => List.mem_append_right _ h⟩
theorem grow_then {G : Prop} {h₀ h : Heap} {L : Addr} {tl rest l l' : List (Addr × Obj)} (N : News h₀ L h (tl ++ l)) (g : Grow tl rest l l') (k : News h₀ L h l' → G) : G := k (Grow.news N g)
theorem grow_off {tl rest all rest2 : List (Addr × Obj)} {c : Addr} {o : Obj} (e : rest2 = tl ++ rest) (ap : ∀ p ∈ tl, ∀ q ∈ all, q.1 ≠ p.1) (hm : (c, o) ∈ all) (h : ∀ p ∈ rest, p.1 ≠ c) : ∀ p ∈ rest2, p.1 ≠ c := by
  subst e
  intro p hp
  rcases List.mem_append.mp hp with hp | hp
  · exact Ne.symm (ap p hp _ hm)
  · exact h p hp
theorem Ent.sz {q : Rat} (h : Ent q) : Sz 2 q := h.1
theorem den_one (n : Int) : (Rat.divInt n 1).den = 1 := by
  rw [Rat.den_divInt]; simp
theorem dens (x y z : Int) : ∀ j, j < 3 → (r3 (Rat.divInt x 1) (Rat.divInt y 1) (Rat.divInt z 1) j).den = 1
  | 0, _ => den_one x
  | 1, _ => den_one y
  | 2, _ => den_one z
inductive Core (one other rows goals : Addr) (p q r : Nat → Nat → Rat) (b : Nat → Rat) (rest : List (Addr × Obj)) : Prop
  | mk (f0 : MatAt 2 2 rest one p 2) (f1 : MatAt 2 2 rest other q 2) (f2 : MatAt 3 3 rest rows r 2) (f3 : RowAt 3 rest goals b 2) : Core one other rows goals p q r b rest
theorem Del.app {I : Addr} {it : Obj} {tl : List (Addr × Obj)} : ∀ {l l' : List (Addr × Obj)}, (∀ p ∈ tl, p.1 ≠ I) → Del I it l l' → Del I it (tl ++ l) (tl ++ l') := by
  intro l l' h d
  induction tl with
  | nil => exact d
  | cons a t ih => exact Del.tail (h a (.head _)) (ih fun p hp => h p (.tail _ hp))
theorem rebase {G : Prop} {h₀ h : Heap} {L : Addr} {o1 o2 o3 o4 o5 o6 o7 : Obj} {v1 v2 v3 v4 v5 v6 v7 : Option Value} {all : List (Addr × Obj)} (N : News h₀ L h all)
    (m1 : (L + 1, o1) ∈ all) (m2 : (L + 1 + 1, o2) ∈ all) (m3 : (L + 1 + 1 + 1, o3) ∈ all) (m4 : (L + 1 + 1 + 1 + 1, o4) ∈ all) (m5 : (L + 1 + 1 + 1 + 1 + 1, o5) ∈ all) (m6 : (L + 1 + 1 + 1 + 1 + 1 + 1, o6) ∈ all) (m7 : (L + 1 + 1 + 1 + 1 + 1 + 1 + 1, o7) ∈ all) (d1 : o1.data = .cell v1) (d2 : o2.data = .cell v2) (d3 : o3.data = .cell v3) (d4 : o4.data = .cell v4) (d5 : o5.data = .cell v5) (d6 : o6.data = .cell v6) (d7 : o7.data = .cell v7)
    (k : ∀ rest2, (∀ p ∈ all, p.1 ≠ L + 1 → p.1 ≠ L + 1 + 1 → p.1 ≠ L + 1 + 1 + 1 → p.1 ≠ L + 1 + 1 + 1 + 1 → p.1 ≠ L + 1 + 1 + 1 + 1 + 1 → p.1 ≠ L + 1 + 1 + 1 + 1 + 1 + 1 → p.1 ≠ L + 1 + 1 + 1 + 1 + 1 + 1 + 1 → p ∈ rest2) → (∀ p ∈ all, (∀ v, p.2.data ≠ .cell v) → p ∈ rest2) → News h₀ L h ((L + 1 + 1 + 1 + 1 + 1 + 1 + 1, o7) :: (L + 1 + 1 + 1 + 1 + 1 + 1, o6) :: (L + 1 + 1 + 1 + 1 + 1, o5) :: (L + 1 + 1 + 1 + 1, o4) :: (L + 1 + 1 + 1, o3) :: (L + 1 + 1, o2) :: (L + 1, o1) :: rest2) → (∀ p ∈ rest2, p.1 ≠ L + 1) → (∀ p ∈ rest2, p.1 ≠ L + 1 + 1) → (∀ p ∈ rest2, p.1 ≠ L + 1 + 1 + 1) → (∀ p ∈ rest2, p.1 ≠ L + 1 + 1 + 1 + 1) → (∀ p ∈ rest2, p.1 ≠ L + 1 + 1 + 1 + 1 + 1) → (∀ p ∈ rest2, p.1 ≠ L + 1 + 1 + 1 + 1 + 1 + 1) → (∀ p ∈ rest2, p.1 ≠ L + 1 + 1 + 1 + 1 + 1 + 1 + 1) → G) : G := by
  have nc : ∀ (c : Addr) (o : Obj) (v : Option Value), (c, o) ∈ all → o.data = .cell v → ∀ p ∈ all, (∀ v, p.2.data ≠ .cell v) → p.1 ≠ c := fun c o v hm hd p hp hc e => by
    have z1 := (N p hp).1
    have z2 := (N _ hm).1
    rw [e] at z1
    have e2 : p.2 = o := Option.some.inj (z1.symm.trans z2)
    exact hc v (by rw [e2]; exact hd)
  have fin : ∀ p ∈ all, p.1 ≠ L + 1 → p.1 ≠ L + 1 + 1 → p.1 ≠ L + 1 + 1 + 1 → p.1 ≠ L + 1 + 1 + 1 + 1 → p.1 ≠ L + 1 + 1 + 1 + 1 + 1 → p.1 ≠ L + 1 + 1 + 1 + 1 + 1 + 1 → p.1 ≠ L + 1 + 1 + 1 + 1 + 1 + 1 + 1 → p ∈ all.filter (fun p => decide (p.1 ≠ L + 1 ∧ p.1 ≠ L + 1 + 1 ∧ p.1 ≠ L + 1 + 1 + 1 ∧ p.1 ≠ L + 1 + 1 + 1 + 1 ∧ p.1 ≠ L + 1 + 1 + 1 + 1 + 1 ∧ p.1 ≠ L + 1 + 1 + 1 + 1 + 1 + 1 ∧ p.1 ≠ L + 1 + 1 + 1 + 1 + 1 + 1 + 1)) := fun p hp e1 e2 e3 e4 e5 e6 e7 => List.mem_filter.mpr ⟨hp, decide_eq_true ⟨e1, e2, e3, e4, e5, e6, e7⟩⟩
  have fout : ∀ p ∈ all.filter (fun p => decide (p.1 ≠ L + 1 ∧ p.1 ≠ L + 1 + 1 ∧ p.1 ≠ L + 1 + 1 + 1 ∧ p.1 ≠ L + 1 + 1 + 1 + 1 ∧ p.1 ≠ L + 1 + 1 + 1 + 1 + 1 ∧ p.1 ≠ L + 1 + 1 + 1 + 1 + 1 + 1 ∧ p.1 ≠ L + 1 + 1 + 1 + 1 + 1 + 1 + 1)), p ∈ all ∧ p.1 ≠ L + 1 ∧ p.1 ≠ L + 1 + 1 ∧ p.1 ≠ L + 1 + 1 + 1 ∧ p.1 ≠ L + 1 + 1 + 1 + 1 ∧ p.1 ≠ L + 1 + 1 + 1 + 1 + 1 ∧ p.1 ≠ L + 1 + 1 + 1 + 1 + 1 + 1 ∧ p.1 ≠ L + 1 + 1 + 1 + 1 + 1 + 1 + 1 := fun p hp => ⟨(List.mem_filter.mp hp).1, of_decide_eq_true (List.mem_filter.mp hp).2⟩
  refine k _ fin (fun p hp hc => fin p hp (nc _ _ _ m1 d1 p hp hc) (nc _ _ _ m2 d2 p hp hc) (nc _ _ _ m3 d3 p hp hc) (nc _ _ _ m4 d4 p hp hc) (nc _ _ _ m5 d5 p hp hc) (nc _ _ _ m6 d6 p hp hc) (nc _ _ _ m7 d7 p hp hc)) (fun p hp => ?_) (fun p hp => (fout p hp).2.1) (fun p hp => (fout p hp).2.2.1) (fun p hp => (fout p hp).2.2.2.1) (fun p hp => (fout p hp).2.2.2.2.1) (fun p hp => (fout p hp).2.2.2.2.2.1) (fun p hp => (fout p hp).2.2.2.2.2.2.1) (fun p hp => (fout p hp).2.2.2.2.2.2.2)
  rcases List.mem_cons.mp hp with rfl | hp; exact N _ m7
  rcases List.mem_cons.mp hp with rfl | hp; exact N _ m6
  rcases List.mem_cons.mp hp with rfl | hp; exact N _ m5
  rcases List.mem_cons.mp hp with rfl | hp; exact N _ m4
  rcases List.mem_cons.mp hp with rfl | hp; exact N _ m3
  rcases List.mem_cons.mp hp with rfl | hp; exact N _ m2
  rcases List.mem_cons.mp hp with rfl | hp; exact N _ m1
  exact N p (fout p hp).1
theorem RowAt.into {m : Nat} {led led' : List (Addr × Obj)} {r : Addr} {p : Nat → Rat} {e : Nat} (h : RowAt m led r p e) (nc : ∀ p ∈ led, (∀ v, p.2.data ≠ .cell v) → p ∈ led') : RowAt m led' r p e := by
  obtain ⟨as, c, h1, h2, h3⟩ := h
  refine ⟨as, c, nc _ h1 (fun v e => by cases e), h2, fun j hj => ?_⟩
  obtain ⟨a, s, u, k, g1, g2, g3⟩ := h3 j hj
  exact ⟨a, s, u, k, g1, nc _ g2 (fun v e => by cases e), g3⟩
theorem RowsAt.into {n m : Nat} {led led' : List (Addr × Obj)} {vs : List Value} {P : Nat → Nat → Rat} {E : Nat → Nat} (h : RowsAt n m led vs P E) (nc : ∀ p ∈ led, (∀ v, p.2.data ≠ .cell v) → p ∈ led') : RowsAt n m led' vs P E := by
  refine ⟨h.1, fun i hi => ?_⟩
  obtain ⟨r, h1, h2⟩ := h.2 i hi
  exact ⟨r, h1, h2.into nc⟩
theorem nc_list {vs : List Value} {c : Nat} : ∀ v, (listObj vs c).data ≠ .cell v := fun v e => by cases e
theorem nc_tup {n d : Int} {t u : Tok} {c : Nat} : ∀ v, (tup2 n t d u c).data ≠ .cell v := fun v e => by cases e
theorem nc_tupR {a b : Addr} {c : Nat} : ∀ v, (tupR a b c).data ≠ .cell v := fun v e => by cases e
inductive Tk (r : Nat → Nat → Rat) (b : Nat → Rat) (mm : Str → Option Value) (rest : List (Addr × Obj)) : Prop
  | mk (RR vs cR Fd q sf uf kf P : _) (f0 : mm (PySem.Str.ofString "taken") = some (.ref RR)) (f1 : mm (PySem.Str.ofString "found") = some (.ref Fd)) (f2 : (RR, listObj vs cR) ∈ rest) (f3 : (Fd, tup2 q.num sf q.den uf kf) ∈ rest) (f4 : Sz 475 q) (f5 : RowsAt 3 4 rest vs P (fun _ => 475)) (f6 : TakenR3 (aug r b) P q) : Tk r b mm rest
inductive CellRat (v : Option Value) (rest : List (Addr × Obj)) (e : Nat) : Prop
  | mk (q : Rat) (a : Addr) (s u : Tok) (k : Nat) (f0 : v = some (.ref a)) (f1 : (a, tup2 q.num s q.den u k) ∈ rest) (f2 : Sz e q) : CellRat v rest e
theorem sq_bounds {x : Int} (h : x.natAbs ≤ 2 ^ 2) : 0 ≤ x ^ 2 ∧ x ^ 2 ≤ 16 := by
  have h1 : -4 ≤ x ∧ x ≤ 4 := by omega
  have hc : x = -4 ∨ x = -3 ∨ x = -2 ∨ x = -1 ∨ x = 0 ∨ x = 1 ∨ x = 2 ∨ x = 3 ∨ x = 4 := by omega
  rcases hc with rfl | rfl | rfl | rfl | rfl | rfl | rfl | rfl | rfl <;> decide
theorem pow2_rule {w : World} {A : Around} {s : Shared} {Q E : Value → Shared → Prop} {x : Int} {t u : Tok} (hf : Fit x) (h : Q (.int (x ^ 2) s.toks) { s with toks := s.toks + 1 }) : wpAny (model PR w) A (binaryOp .Pow (.int x t) (.int 2 u)) Q E s :=
  pow_int (n := 2) (by decide) (by have := hf.bits; omega) h
end Mine
namespace Mine
open PyProof.V
theorem law_raises (c : WCtx) : ∀ ct ∈ PySem.Challenge.rw_sz0002_01.row.raises, WTm.holds PySem.Challenge.rw_sz0002_01.row.records ct.2 c = false := fun ct h => nomatch h
theorem law_post (ns : List Int) : PySem.Challenge.rw_sz0002_01.row.claim.post [ofPy (PyData.list (List.map PyData.int ns))] (WData.bool true) [ofPy (PyData.list (List.map PyData.int ns))] = true := by
  wrow_post
end Mine
namespace Mine
inductive Slv (r : Nat → Nat → Rat) (b : Nat → Rat) (v : Option Value) (rest : List (Addr × Obj)) : Prop
  | mk (x : Nat → Rat) (D : Addr) (f0 : v = some (.ref D)) (f1 : RowAt 3 rest D x 70) (f2 : Sol (aug r b) (x 0) (x 1) (x 2)) : Slv r b v rest
theorem Fit.mul2 {x y : Int} (h : x.natAbs ≤ 2 ^ 70) (g : y.natAbs ≤ 2 ^ 70) : Fit (x * y) := le_fit (e := 140) (by rw [Int.natAbs_mul]; exact mul_le2 h g) (by decide)
theorem den_le {q : Rat} {e : Nat} (h : Sz e q) : (q.den : Int).natAbs ≤ 2 ^ e := by rw [Int.natAbs_natCast]; exact h.2
inductive Openc3 (led : List (Addr × Obj)) (r : Addr) (p : Nat → Rat) (e v : Nat) : Prop
  | mk (c : Nat) (a0 : Addr) (s0 u0 : Tok) (k0 : Nat) (a1 : Addr) (s1 u1 : Tok) (k1 : Nat) (a2 : Addr) (s2 u2 : Tok) (k2 : Nat) (x : Addr) (sx ux : Tok) (kx : Nat) (f0 : (r, listObj [.ref a0, .ref a1, .ref a2] c) ∈ led) (f1 : (a0, tup2 (p 0).num s0 (p 0).den u0 k0) ∈ led) (f2 : (a1, tup2 (p 1).num s1 (p 1).den u1 k1) ∈ led) (f3 : (a2, tup2 (p 2).num s2 (p 2).den u2 k2) ∈ led) (f4 : Sz e (p 0)) (f5 : Sz e (p 1)) (f6 : Sz e (p 2)) (f7 : ([.ref a0, .ref a1, .ref a2] : List Value)[v]? = some (.ref x)) (f8 : (x, tup2 (p v).num sx (p v).den ux kx) ∈ led) (f9 : Sz e (p v)) : Openc3 led r p e v
theorem RowAt.openc3 {led : List (Addr × Obj)} {r : Addr} {p : Nat → Rat} {e v : Nat} (h : RowAt 3 led r p e) (hv : v < 3) : Openc3 led r p e v := by
  obtain ⟨c, a0, s0, u0, k0, a1, s1, u1, k1, a2, s2, u2, k2, h1, m0, m1, m2, z0, z1, z2⟩ := h.open3
  match v, hv with
  | 0, _ => exact ⟨c, a0, s0, u0, k0, a1, s1, u1, k1, a2, s2, u2, k2, a0, s0, u0, k0, h1, m0, m1, m2, z0, z1, z2, rfl, m0, z0⟩
  | 1, _ => exact ⟨c, a0, s0, u0, k0, a1, s1, u1, k1, a2, s2, u2, k2, a1, s1, u1, k1, h1, m0, m1, m2, z0, z1, z2, rfl, m1, z1⟩
  | 2, _ => exact ⟨c, a0, s0, u0, k0, a1, s1, u1, k1, a2, s2, u2, k2, a2, s2, u2, k2, h1, m0, m1, m2, z0, z1, z2, rfl, m2, z2⟩
end Mine
namespace Mine
theorem item_last4 {prog : Program} {w : World} {A : Around} {E : Value → Shared → Prop} {s : Shared} {h₀ : Heap} {L l : Addr} {news : List (Addr × Obj)} {a b c v : Value} {n : Nat} {u : Tok} {value slice : PySem.Expr} {Q : Value → Shared → Prop}
    (N : News h₀ L s.heap news) (hm : (l, listObj [a, b, c, v] n) ∈ news) (h : Q v s)
    (hs : subscripted slice false (.ref l) (.int (-1) u) = operate [.ref l, .int (-1) u] (getItem (.ref l) (.int (-1) u)) := by with_unfolding_all rfl) :
    wpAny (model prog w) A (subscriptTail value slice (.ref l) (.int (-1) u)) Q E s :=
  have hL := News.isList N hm
  tail_any hL.typeIs slot_list_getitem.lookup (wpAny_getItem_list_neg hL (by decide) (show -((4 : Nat) : Int) ≤ -1 by decide) (by decide) rfl h) hs
theorem getItem_last4 {prog : Program} {w : World} {A : Around} {E : Value → Shared → Prop} {s : Shared} {h₀ : Heap} {L l : Addr} {news : List (Addr × Obj)} {a b c v : Value} {n : Nat} {u : Tok} {Q : Value → Shared → Prop}
    (N : News h₀ L s.heap news) (hm : (l, listObj [a, b, c, v] n) ∈ news) (h : Q v s) : wpAny (model prog w) A (getItem (.ref l) (.int (-1) u)) Q E s :=
  have hL := News.isList N hm
  wpAny_getItem_list_neg hL (by decide) (show -((4 : Nat) : Int) ≤ -1 by decide) (by decide) rfl h
end Mine
end
section
open PySem PySem.W PyProof.Rows PySem.Calls PySem.Spec PyProof.V
set_option Elab.async false
set_option maxRecDepth 100000
set_option maxHeartbeats 8000000
namespace Mine
theorem mat_sz {n m e : Nat} {led : List (Addr × Obj)} {D : Addr} {P : Nat → Nat → Rat} (M : MatAt n m led D P e) (i j : Nat) (hi : i < n) (hj : j < m) : Sz e (P i j) := by
  obtain ⟨_, _, _, _, hrows⟩ := M
  obtain ⟨_, _, _, _, _, _, hall⟩ := hrows i hi
  obtain ⟨_, _, _, _, _, _, h⟩ := hall j hj
  exact h
def rows2 (f g : Nat → Rat) : Nat → Nat → Rat
  | 0 => f
  | _ + 1 => g
theorem det2_mulN {p q : Nat → Nat → Rat} : det2 (mulN 2 p q) = det2 p * det2 q := by
  have h : ∀ i j, mulN 2 p q i j = p i 0 * q 0 j + p i 1 * q 1 j := fun i j => by
    show 0 + p i 0 * q 0 j + p i 1 * q 1 j = _
    rw [Rat.zero_add]
  have e : det2 (mulN 2 p q) = (p 0 0 * q 0 0 + p 0 1 * q 1 0) * (p 1 0 * q 0 1 + p 1 1 * q 1 1) + -((p 0 0 * q 0 1 + p 0 1 * q 1 1) * (p 1 0 * q 0 0 + p 1 1 * q 1 0)) := by
    unfold det2; rw [h, h, h, h]
  exact e.trans det2_mul
theorem det2_rows2 {p : Nat → Nat → Rat} : det2 (rows2 (p 1) (p 0)) = -det2 p := det2_turn
theorem det2_oft {q : Nat → Nat → Rat} {o : Rat} : det2 (fun i j => o * q i j) = o * o * det2 q := det2_often
theorem app_row {n e : Nat} {r : Nat → Rat} {q : Rat} {led : List (Addr × Obj)} {as : List Value} {c2 : Nat} {D x : Addr} {sx ux : Tok} {kx : Nat} (h : as.length = n) (hall : ∀ j, j < n → ∃ a s u k, as[j]? = some (.ref a) ∧ (a, tup2 (r j).num s (r j).den u k) ∈ led ∧ Sz e (r j))
    (hx : (x, tup2 q.num sx q.den ux kx) ∈ led) (hq : Sz e q) (hD : (D, listObj (as ++ [.ref x]) c2) ∈ led) : RowAt (n + 1) led D (fun j => if j < n then r j else q) e :=
  ⟨_, _, hD, by rw [List.length_append, h]; rfl, fun j hj => by
    by_cases g : j < n
    · obtain ⟨a, s, u, k, h1, h2, h3⟩ := hall j g
      exact ⟨a, s, u, k, by rw [List.getElem?_append_left (by omega)]; exact h1, by simp only [if_pos g]; exact h2, by simp only [if_pos g]; exact h3⟩
    · obtain rfl : j = n := by omega
      exact ⟨x, sx, ux, kx, by rw [List.getElem?_append_right (by omega), h, Nat.sub_self]; rfl, by simp only [if_neg g]; exact hx, by simp only [if_neg g]; exact hq⟩⟩
inductive Base (D1 D2 D3 G : Addr) (p q r : Nat → Nat → Rat) (b : Nat → Rat) (mm : Str → Option Value) (v2 v3 : Option Value) (rest : List (Addr × Obj)) : Prop
  | mk (la : Addr) (ls lu : Tok) (lk : Nat) (ra : Addr) (rs ru : Tok) (rk : Nat) (ba : Addr) (bs bu : Tok) (bk : Nat) (f0 : mm (PySem.Str.ofString "one") = some (.ref D1)) (f1 : mm (PySem.Str.ofString "other") = some (.ref D2)) (f2 : v2 = some (.ref D3)) (f3 : v3 = some (.ref G)) (m1 : MatAt 2 2 rest D1 p 2) (m2 : MatAt 2 2 rest D2 q 2) (m3 : MatAt 3 3 rest D3 r 2) (g : RowAt 3 rest G b 2)
      (hl : mm (PySem.Str.ofString "left") = some (.ref la)) (lm : (la, tup2 (det2 p).num ls (det2 p).den lu lk) ∈ rest) (lz : Sz 9 (det2 p)) (hr : mm (PySem.Str.ofString "right") = some (.ref ra)) (rm : (ra, tup2 (det2 q).num rs (det2 q).den ru rk) ∈ rest) (rz : Sz 9 (det2 q)) (hb : mm (PySem.Str.ofString "below") = some (.ref ba)) (bm : (ba, tup2 (det3 r).num bs (det3 r).den bu bk) ∈ rest) (bz : Sz 35 (det3 r)) : Base D1 D2 D3 G p q r b mm v2 v3 rest
theorem Base.sub {D1 D2 D3 G : Addr} {p q r : Nat → Nat → Rat} {b : Nat → Rat} {mm mm' : Str → Option Value} {v2 v3 v2' v3' : Option Value} {rest rest' : List (Addr × Obj)} (h : Base D1 D2 D3 G p q r b mm v2 v3 rest) (hs : ∀ x ∈ rest, x ∈ rest') (k1 : mm' (PySem.Str.ofString "one") = mm (PySem.Str.ofString "one")) (k2 : mm' (PySem.Str.ofString "other") = mm (PySem.Str.ofString "other"))
    (k3 : mm' (PySem.Str.ofString "left") = mm (PySem.Str.ofString "left")) (k4 : mm' (PySem.Str.ofString "right") = mm (PySem.Str.ofString "right")) (k5 : mm' (PySem.Str.ofString "below") = mm (PySem.Str.ofString "below")) (e2 : v2' = some (.ref D3)) (e3 : v3' = some (.ref G)) : Base D1 D2 D3 G p q r b mm' v2' v3' rest' := by
  obtain ⟨la, ls, lu, lk, ra, rs, ru, rk, ba, bs, bu, bk, f0, f1, -, -, m1, m2, m3, g, hl, lm, lz, hr, rm, rz, hb, bm, bz⟩ := h
  exact ⟨la, ls, lu, lk, ra, rs, ru, rk, ba, bs, bu, bk, k1.trans f0, k2.trans f1, e2, e3, m1.sub hs, m2.sub hs, m3.sub hs, g.sub hs (fun _ _ => rfl) (Nat.le_refl _), k3.trans hl, hs _ lm, lz, k4.trans hr, hs _ rm, rz, k5.trans hb, hs _ bm, bz⟩
inductive Two (D3 G : Addr) (r : Nat → Nat → Rat) (b : Nat → Rat) (v2 v3 : Option Value) (rest : List (Addr × Obj)) : Prop
  | mk (f2 : v2 = some (.ref D3)) (f3 : v3 = some (.ref G)) (m3 : MatAt 3 3 rest D3 r 2) (g : RowAt 3 rest G b 2) : Two D3 G r b v2 v3 rest
theorem execs_cutJ {prog : Program} {w : World} {A : Around} {E : Value → Shared → Prop} {s : Shared} {env : Env} {st : Stmt} {rest : List Stmt} {Q : Flow → Shared → Prop} {h₀ : Heap} {L : Addr} {m : Str → Option Value} (Z : (Str → Option Value) → Option Value → Option Value → Option Value → Option Value → Option Value → Option Value → Option Value → List (Addr × Obj) → Prop) (F : Fr h₀ L s.heap m)
    (h1 : wpAny (model prog w) A (exec st env) (fun f s' => match f with | .next => Stop (MidL s h₀ L (JC Z L) s') | f => Q f s') E s)
    (h2 : ∀ h tk m (o1 o2 o3 o4 o5 o6 o7 : Obj) (v1 v2 v3 v4 v5 v6 v7 : Option Value) (rs : List (Addr × Obj)), Fr h₀ L h m → News h₀ L h ((L + 1 + 1 + 1 + 1 + 1 + 1 + 1, o7) :: (L + 1 + 1 + 1 + 1 + 1 + 1, o6) :: (L + 1 + 1 + 1 + 1 + 1, o5) :: (L + 1 + 1 + 1 + 1, o4) :: (L + 1 + 1 + 1, o3) :: (L + 1 + 1, o2) :: (L + 1, o1) :: rs) → o1.data = .cell v1 → o2.data = .cell v2 → o3.data = .cell v3 → o4.data = .cell v4 → o5.data = .cell v5 → o6.data = .cell v6 → o7.data = .cell v7 →
      (∀ p ∈ rs, p.1 ≠ L + 1) → (∀ p ∈ rs, p.1 ≠ L + 1 + 1) → (∀ p ∈ rs, p.1 ≠ L + 1 + 1 + 1) → (∀ p ∈ rs, p.1 ≠ L + 1 + 1 + 1 + 1) → (∀ p ∈ rs, p.1 ≠ L + 1 + 1 + 1 + 1 + 1) → (∀ p ∈ rs, p.1 ≠ L + 1 + 1 + 1 + 1 + 1 + 1) → (∀ p ∈ rs, p.1 ≠ L + 1 + 1 + 1 + 1 + 1 + 1 + 1) → Z m v1 v2 v3 v4 v5 v6 v7 rs →
      wpAny (model prog w) A (execs rest env) Q E { s with heap := h, toks := tk }) : wpAny (model prog w) A (execs (st :: rest) env) Q E s :=
  execs_cutL (fun L => JC Z L) F h1 fun h tk m nw F N j => by
    obtain ⟨o1, o2, o3, o4, o5, o6, o7, v1, v2, v3, v4, v5, v6, v7, rs, d1, d2, d3, d4, d5, d6, d7, e, r1, r2, r3, r4, r5, r6, r7, z⟩ := j
    exact h2 h tk m o1 o2 o3 o4 o5 o6 o7 v1 v2 v3 v4 v5 v6 v7 rs F (e ▸ N) d1 d2 d3 d4 d5 d6 d7 r1 r2 r3 r4 r5 r6 r7 z
section
variable {w : World} {mean : ExcName → Option Value} {mg mb : Str → Option Value} {news all : List (Addr × Obj)}
  {dp un : Nat} {gd : Option (List Code)} {cn : Str} {cs : Scope} {a : Addr} {ccd : Value} {cl : List (Str × Addr)} {outer : List Env} {A₀ : Around} {base h₀ : Heap} {L : Addr} {m : Str → Option Value} {s : Shared} {Q E : Value → Shared → Prop}
theorem bpM2_use {e : Nat} {l : Addr} {P : Nat → Nat → Rat} (B : Below A₀ base outer h₀) (F : Fr h₀ L s.heap m) (X : (Hd.hd.heap_1 w.params).In h₀) (N : News h₀ L s.heap news) (T : Top Hd.hd.view_1 LO mean mg mb h₀) (hk : cs.kind = .function) (hd : dp + 5 < recursionLimit) (hu : un + 8 * 5 < cLine) (G : Great mg) (M : MatAt 2 2 news l P e) (hs : 4 * e + 20 ≤ 2300)
    (ret : ∀ D u1 u2 c h' tk', Fr h₀ L h' m → News h₀ L h' ((D, tup2 (det2 P).num u1 (det2 P).den u2 c) :: news) → AllLt D news → Sz (4 * e + 1) (det2 P) → Q (.ref D) { s with heap := h', toks := tk' }) :
    wpAny (model PR w) (ktrTop dp un gd cn cs L a ccd cl outer) (call (.ref 148) [.ref l]) Q E s := by
  have z := mat_sz M
  have D := bp2_det w mean mg mb G e (by omega) news l P M
  rw [det2_eq] at D
  exact use_rat D B F X N T hk hd hu fun D u1 u2 c h' tk' F' N' l => ret D u1 u2 c h' tk' F' N' l ((Sz.add (Sz.mul (z 0 0 (by decide) (by decide)) (z 1 1 (by decide) (by decide))) (Sz.neg (Sz.mul (z 0 1 (by decide) (by decide)) (z 1 0 (by decide) (by decide))))).mono (by omega))
theorem bpR2_use {e : Nat} {l r0 r1 : Addr} {c0 : Nat} {f g : Nat → Rat} (B : Below A₀ base outer h₀) (F : Fr h₀ L s.heap m) (X : (Hd.hd.heap_1 w.params).In h₀) (N : News h₀ L s.heap news) (T : Top Hd.hd.view_1 LO mean mg mb h₀) (hk : cs.kind = .function) (hd : dp + 5 < recursionLimit) (hu : un + 8 * 5 < cLine) (G : Great mg) (hl : (l, listObj [.ref r0, .ref r1] c0) ∈ news) (h0 : RowAt 2 news r0 f e) (h1 : RowAt 2 news r1 g e) (hs : 4 * e + 20 ≤ 2300)
    (ret : ∀ D u1 u2 c h' tk', Fr h₀ L h' m → News h₀ L h' ((D, tup2 (det2 (rows2 f g)).num u1 (det2 (rows2 f g)).den u2 c) :: news) → AllLt D news → Sz (4 * e + 1) (det2 (rows2 f g)) → Q (.ref D) { s with heap := h', toks := tk' }) :
    wpAny (model PR w) (ktrTop dp un gd cn cs L a ccd cl outer) (call (.ref 148) [.ref l]) Q E s :=
  bpM2_use B F X N T hk hd hu G ⟨_, c0, hl, RowsAt.of2 h0 h1⟩ hs ret
theorem bpM3_use {e : Nat} {l : Addr} {P : Nat → Nat → Rat} (B : Below A₀ base outer h₀) (F : Fr h₀ L s.heap m) (X : (Hd.hd.heap_1 w.params).In h₀) (N : News h₀ L s.heap news) (T : Top Hd.hd.view_1 LO mean mg mb h₀) (hk : cs.kind = .function) (hd : dp + 7 < recursionLimit) (hu : un + 8 * 7 < cLine) (G : Great mg) (M : MatAt 3 3 news l P e) (hs : 15 * e + 40 ≤ 2300)
    (ret : ∀ D u1 u2 c h' tk', Fr h₀ L h' m → News h₀ L h' ((D, tup2 (det3 P).num u1 (det3 P).den u2 c) :: news) → AllLt D news → Sz (15 * e + 5) (det3 P) → Q (.ref D) { s with heap := h', toks := tk' }) :
    wpAny (model PR w) (ktrTop dp un gd cn cs L a ccd cl outer) (call (.ref 148) [.ref l]) Q E s := by
  have z := det3_sz (mat_sz M)
  have D := bp3_det w mean mg mb G e (by omega) news l P M
  rw [det3_eq] at D z
  exact use_rat D B F X N T hk hd hu fun D u1 u2 c h' tk' F' N' l => ret D u1 u2 c h' tk' F' N' l z
theorem timesM_use {xD yD : Addr} {p q : Nat → Nat → Rat} (B : Below A₀ base outer h₀) (F : Fr h₀ L s.heap m) (X : (Hd.hd.heap_1 w.params).In h₀) (N : News h₀ L s.heap all) (T : Top Hd.hd.view_1 LO mean mg mb h₀) (hk : cs.kind = .function) (hd : dp + 5 < recursionLimit) (hu : un + 8 * 5 < cLine) (G : Great mg) (M1 : MatAt 2 2 all xD p 2) (M2 : MatAt 2 2 all yD q 2)
    (ret : ∀ D tl h' tk', Fr h₀ L h' m → News h₀ L h' (tl ++ all) → MatAt 2 2 tl D (mulN 2 p q) 10 → (∀ p ∈ tl, ∀ q ∈ all, q.1 ≠ p.1) → Q (.ref D) { s with heap := h', toks := tk' }) :
    wpAny (model PR w) (ktrTop dp un gd cn cs L a ccd cl outer) (call (.ref 165) [.ref xD, .ref yD]) Q E s := by
  refine Does.use (timesN_does w mean mg mb G 2 (by decide) (by decide) 2 (by decide) all xD yD p q M1 M2) B F X N T hk hd hu ?_
  rintro r news' h' tk' F' N' ⟨D, tl, rfl, rfl, M, ap⟩
  exact ret D tl h' tk' F' N' M ap
theorem takenM2_use (M : Nat → Nat → Rat) {xD : Addr} (B : Below A₀ base outer h₀) (F : Fr h₀ L s.heap m) (X : (Hd.hd.heap_1 w.params).In h₀) (N : News h₀ L s.heap all) (T : Top Hd.hd.view_1 LO mean mg mb h₀) (hk : cs.kind = .function) (hd : dp + 16 < recursionLimit) (hu : un + 8 * 16 < cLine) (G : Great mg) (hM : MatAt 2 2 all xD M 2)
    (ret : ∀ T cT RR vs cR Fd q sf uf kf P tl h' tk', Fr h₀ L h' m → News h₀ L h' (tl ++ all) → (T, tupR RR Fd cT) ∈ tl ++ all → (RR, listObj vs cR) ∈ tl ++ all → (Fd, tup2 q.num sf q.den uf kf) ∈ tl ++ all → Sz 475 q → RowsAt 2 2 (tl ++ all) vs P (fun _ => 475) → (∀ p ∈ tl, ∀ q ∈ all, q.1 ≠ p.1) →
      q = det2 M → Q (.ref T) { s with heap := h', toks := tk' }) :
    wpAny (model PR w) (ktrTop dp un gd cn cs L a ccd cl outer) (call (.ref 160) [.ref xD]) Q E s := by
  obtain ⟨vs0, xc, xl, hrows⟩ := hM
  refine Does.use (taken_does w mean mg mb G 2 2 (by decide) (by decide) (by decide) (Sh2 M) M (sh2_0 M) (sh2_sw M) (sh2_el M) all xD xc vs0 xl hrows) B F X N T hk hd hu ?_
  rintro r news' h' tk' F' N' ⟨T, cT, RR, vs, cR, Fd, q, sf, uf, kf, P, tl, rfl, h1, h2, h3, hz, hr, rfl, ap, hp⟩
  exact ret T cT RR vs cR Fd q sf uf kf P tl h' tk' F' N' h1 h2 h3 hz hr ap (taken2_det hp)
theorem takenM3_use (M : Nat → Nat → Rat) {xD : Addr} (B : Below A₀ base outer h₀) (F : Fr h₀ L s.heap m) (X : (Hd.hd.heap_1 w.params).In h₀) (N : News h₀ L s.heap all) (T : Top Hd.hd.view_1 LO mean mg mb h₀) (hk : cs.kind = .function) (hd : dp + 16 < recursionLimit) (hu : un + 8 * 16 < cLine) (G : Great mg) (hM : MatAt 3 4 all xD M 2)
    (ret : ∀ T cT RR vs cR Fd q sf uf kf P tl h' tk', Fr h₀ L h' m → News h₀ L h' (tl ++ all) → (T, tupR RR Fd cT) ∈ tl ++ all → (RR, listObj vs cR) ∈ tl ++ all → (Fd, tup2 q.num sf q.den uf kf) ∈ tl ++ all → Sz 475 q → RowsAt 3 4 (tl ++ all) vs P (fun _ => 475) → (∀ p ∈ tl, ∀ q ∈ all, q.1 ≠ p.1) →
      TakenR3 M P q → Q (.ref T) { s with heap := h', toks := tk' }) :
    wpAny (model PR w) (ktrTop dp un gd cn cs L a ccd cl outer) (call (.ref 160) [.ref xD]) Q E s := by
  obtain ⟨vs0, xc, xl, hrows⟩ := hM
  refine Does.use (taken_does w mean mg mb G 3 4 (by decide) (by decide) (by decide) (Sh3 M) M (sh3_0 M) (sh3_sw M) (sh3_el M) all xD xc vs0 xl hrows) B F X N T hk hd hu ?_
  rintro r news' h' tk' F' N' ⟨T, cT, RR, vs, cR, Fd, q, sf, uf, kf, P, tl, rfl, h1, h2, h3, hz, hr, rfl, ap, hp⟩
  exact ret T cT RR vs cR Fd q sf uf kf P tl h' tk' F' N' h1 h2 h3 hz hr ap hp
theorem quo_eq {r : Nat → Nat → Rat} {b : Nat → Rat} {k : Nat} : quoN 3 r b k = det3 (cram r b k) / det3 r := by
  unfold quoN; rw [det3_eq, det3_eq]; rfl
theorem solvedM_use {r : Nat → Nat → Rat} {b : Nat → Rat} {xD gD : Addr} (B : Below A₀ base outer h₀) (F : Fr h₀ L s.heap m) (X : (Hd.hd.heap_1 w.params).In h₀) (N : News h₀ L s.heap all) (T : Top Hd.hd.view_1 LO mean mg mb h₀) (hk : cs.kind = .function) (hd : dp + 10 < recursionLimit) (hu : un + 8 * 10 < cLine) (G : Great mg) (hM : MatAt 3 3 all xD r 2) (hG : RowAt 3 all gD b 2) (hnz : det3 r ≠ 0)
    (ret : ∀ (x : Nat → Rat) D tl h' tk', Sol (aug r b) (x 0) (x 1) (x 2) → Fr h₀ L h' m → News h₀ L h' (tl ++ all) → RowAt 3 (tl ++ all) D x 70 → (∀ p ∈ tl, ∀ q ∈ all, q.1 ≠ p.1) → Q (.ref D) { s with heap := h', toks := tk' }) :
    wpAny (model PR w) (ktrTop dp un gd cn cs L a ccd cl outer) (call (.ref 170) [.ref xD, .ref gD]) Q E s := by
  refine Does.use (solvedN_does w mean mg mb G 3 (by decide) 35 (by decide) (fun news D P M => bp3_det w mean mg mb G 2 (by decide) news D P M) (fun P h => det3_sz h) all xD gD r b hM hG (by rw [det3_eq]; exact hnz)) B F X N T hk hd hu ?_
  rintro _ news' h' tk' F' N' ⟨D, tl, rfl, rfl, row, ap⟩
  exact ret _ D tl h' tk' (by rw [quo_eq, quo_eq, quo_eq]; exact cramer hnz) F' N' row ap
end
end Mine
end
section
open PySem PySem.W PyProof.Rows PySem.Calls PySem.Spec PyProof.V
set_option Elab.async false
set_option maxRecDepth 100000
set_option maxHeartbeats 8000000
namespace Mine
inductive Off7 (I L : Addr) (rest : List (Addr × Obj)) : Prop
  | mk (f0 : @Ne Nat (L + 1) I) (f1 : @Ne Nat (L + 1 + 1) I) (f2 : @Ne Nat (L + 1 + 1 + 1) I) (f3 : @Ne Nat (L + 1 + 1 + 1 + 1) I) (f4 : @Ne Nat (L + 1 + 1 + 1 + 1 + 1) I) (f5 : @Ne Nat (L + 1 + 1 + 1 + 1 + 1 + 1) I) (f6 : @Ne Nat (L + 1 + 1 + 1 + 1 + 1 + 1 + 1) I) (f7 : @Ne Nat I (L + 1)) (f8 : @Ne Nat I (L + 1 + 1)) (f9 : @Ne Nat I (L + 1 + 1 + 1)) (f10 : @Ne Nat I (L + 1 + 1 + 1 + 1)) (f11 : @Ne Nat I (L + 1 + 1 + 1 + 1 + 1)) (f12 : @Ne Nat I (L + 1 + 1 + 1 + 1 + 1 + 1)) (f13 : @Ne Nat I (L + 1 + 1 + 1 + 1 + 1 + 1 + 1)) (f14 : (∀ p ∈ rest, p.1 ≠ I)) : Off7 I L rest
theorem off7_of {I L : Addr} {rest : List (Addr × Obj)} {o1 o2 o3 o4 o5 o6 o7 : Obj} (h : LCg.Off1 I ((L + 1 + 1 + 1 + 1 + 1 + 1 + 1, o7) :: (L + 1 + 1 + 1 + 1 + 1 + 1, o6) :: (L + 1 + 1 + 1 + 1 + 1, o5) :: (L + 1 + 1 + 1 + 1, o4) :: (L + 1 + 1 + 1, o3) :: (L + 1 + 1, o2) :: (L + 1, o1) :: rest)) : Off7 I L rest := by
  have h := off1_mem h
  have g : ∀ x o, (x, o) ∈ (L + 1 + 1 + 1 + 1 + 1 + 1 + 1, o7) :: (L + 1 + 1 + 1 + 1 + 1 + 1, o6) :: (L + 1 + 1 + 1 + 1 + 1, o5) :: (L + 1 + 1 + 1 + 1, o4) :: (L + 1 + 1 + 1, o3) :: (L + 1 + 1, o2) :: (L + 1, o1) :: rest → @Ne Nat x I := fun x o hm => h (x, o) hm
  have a1 := g _ o1 (.tail _ (.tail _ (.tail _ (.tail _ (.tail _ (.tail _ (.head _)))))))
  have a2 := g _ o2 (.tail _ (.tail _ (.tail _ (.tail _ (.tail _ (.head _))))))
  have a3 := g _ o3 (.tail _ (.tail _ (.tail _ (.tail _ (.head _)))))
  have a4 := g _ o4 (.tail _ (.tail _ (.tail _ (.head _))))
  have a5 := g _ o5 (.tail _ (.tail _ (.head _)))
  have a6 := g _ o6 (.tail _ (.head _))
  have a7 := g _ o7 (.head _)
  exact ⟨a1, a2, a3, a4, a5, a6, a7, a1.symm, a2.symm, a3.symm, a4.symm, a5.symm, a6.symm, a7.symm, fun p hp => h p (.tail _ (.tail _ (.tail _ (.tail _ (.tail _ (.tail _ (.tail _ hp)))))))⟩
theorem nb_mul {x y : Int} {e f : Nat} (h : x.natAbs ≤ 2 ^ e) (g : y.natAbs ≤ 2 ^ f) : (x * y).natAbs ≤ 2 ^ (e + f) := by rw [Int.natAbs_mul]; exact mul_le2 h g
theorem nb_fdiv {x y : Int} {e : Nat} (h : x.natAbs ≤ 2 ^ e) (hy : 0 ≤ y) : (x.fdiv y).natAbs ≤ 2 ^ e := by
  rw [Int.fdiv_eq_ediv_of_nonneg _ hy]; exact Nat.le_trans (Int.natAbs_ediv_le_natAbs _ _) h
theorem nb_fit {x : Int} {e : Nat} (h : x.natAbs ≤ 2 ^ e) (he : e ≤ 2500) : Fit x := le_fit h he
theorem heq_sum {a b c d : Int} (h : 0 + a + b + c = d) : a + (b + (c + 0)) = d := by omega
theorem int_num {n : Int} : n = ((n : Int) : Rat).num := rfl
theorem int_den {n : Int} : (1 : Int) = (((n : Int) : Rat).den : Int) := rfl
theorem half_num : (1 : Int) = ((1 / 2 : Rat)).num := by decide +kernel
theorem half_den : (2 : Int) = (((1 / 2 : Rat)).den : Int) := by decide +kernel
theorem mhalf_num : (-1 : Int) = ((-(1 / 2) : Rat)).num := by decide +kernel
theorem mhalf_den : (2 : Int) = (((-(1 / 2) : Rat)).den : Int) := by decide +kernel
theorem sz_half : Sz 1 (1 / 2 : Rat) := ⟨by decide +kernel, by decide +kernel⟩
theorem sz_mhalf : Sz 1 (-(1 / 2) : Rat) := ⟨by decide +kernel, by decide +kernel⟩
theorem fdiv_neg_le {a b : Int} (h : 0 ≤ a) (hb : 0 < b) : 0 ≤ a.fdiv b := by rw [Int.fdiv_eq_ediv_of_nonneg _ (by omega)]; exact Int.ediv_nonneg h (by omega)
theorem rnd_sz {p : Rat} {e : Nat} (h : Sz e p) : Sz (e + 2) ((rndR p : Int) : Rat) := by
  have hd : 0 < (p.den : Int) := by have := p.den_nz; omega
  have hn := rnd_near p
  have h1 := h.1
  refine ⟨?_, ?_⟩
  · show (rndR p).natAbs ≤ _
    have key : (rndR p).natAbs ≤ p.num.natAbs + 1 := by
      have a1 := hn.1
      have a2 := hn.2
      generalize rndR p = q at *
      have b1 : 2 * q * p.den = 2 * (q * p.den) := by rw [Int.mul_assoc]
      rw [b1] at a1 a2
      have c0 : (q * (p.den : Int)).natAbs = q.natAbs * p.den := by rw [Int.natAbs_mul, Int.natAbs_natCast]
      have c1 : 2 * (q * (p.den : Int)).natAbs ≤ 2 * p.num.natAbs + p.den := by omega
      rw [c0] at c1
      have hd' : 1 ≤ p.den := by omega
      apply Nat.le_of_not_lt
      intro hc
      have d1 : (p.num.natAbs + 2) * p.den ≤ q.natAbs * p.den := Nat.mul_le_mul_right _ hc
      have d2 : (p.num.natAbs + 2) * p.den = p.num.natAbs * p.den + 2 * p.den := Nat.add_mul ..
      have d3 : p.num.natAbs ≤ p.num.natAbs * p.den := Nat.le_mul_of_pos_right _ hd'
      omega
    have : (2:Nat) ^ (e + 2) = 4 * 2 ^ e := by rw [Nat.pow_add]; omega
    have : 1 ≤ 2 ^ e := Nat.one_le_two_pow
    omega
  · show 1 ≤ _
    exact Nat.one_le_two_pow
theorem gap_le {p : Rat} : ¬ 0 < ordR (p - ((rndR p : Int) : Rat)) (1 / 2) := by
  have h := rnd_le p
  rw [ordR_eq]
  split
  · decide
  · split
    · rename_i h2; exact absurd h (Rat.not_le.mpr h2)
    · decide
theorem gap_ge {p : Rat} : ¬ ordR (p - ((rndR p : Int) : Rat)) (-(1 / 2)) < 0 := by
  have h := rnd_ge p
  rw [ordR_eq]
  split
  · rename_i h2; exact absurd h (Rat.not_le.mpr h2)
  · split <;> decide
section
variable {prog : Program} {w : World} {A : Around} {E : Value → Shared → Prop} {s : Shared} {h₀ : Heap} {L t : Addr} {news : List (Addr × Obj)} {a b : Value} {n : Nat} {u : Tok} {value slice : PySem.Expr} {Q : Value → Shared → Prop}
theorem neK_int {x y : Int} {t1 t2 : Tok} (e : x = y) (h : Q (.bool false) s) : wpAny (model prog w) A (compareOp .NotEq (.int x t1) (.int y t2)) Q E s := ne_int (by rw [e, bne_self_eq_false]; exact h)
theorem item_tup0 (N : News h₀ L s.heap news) (hm : (t, ({ cls := .type "tuple", data := .seq #[a, b] n } : Obj)) ∈ news) (h : Q a s)
    (hs : subscripted slice false (.ref t) (.int 0 u) = operate [.ref t, .int 0 u] (getItem (.ref t) (.int 0 u)) := by with_unfolding_all rfl) : wpAny (model prog w) A (subscriptTail value slice (.ref t) (.int 0 u)) Q E s :=
  have ht : IsTup s.heap t #[a, b] := News.isTup N hm
  tail_any ht.typeIs slot_tuple_getitem.lookup (getItem_tuple ht (by decide) (by decide) (j := 0) rfl rfl h) hs
theorem item_tup1 (N : News h₀ L s.heap news) (hm : (t, ({ cls := .type "tuple", data := .seq #[a, b] n } : Obj)) ∈ news) (h : Q b s)
    (hs : subscripted slice false (.ref t) (.int 1 u) = operate [.ref t, .int 1 u] (getItem (.ref t) (.int 1 u)) := by with_unfolding_all rfl) : wpAny (model prog w) A (subscriptTail value slice (.ref t) (.int 1 u)) Q E s :=
  have ht : IsTup s.heap t #[a, b] := News.isTup N hm
  tail_any ht.typeIs slot_tuple_getitem.lookup (getItem_tuple ht (by decide) (by decide) (j := 1) rfl rfl h) hs
end
end Mine
end
section
open PySem PySem.W PyProof.Rows PySem.Calls PySem.Spec
set_option Elab.async false
set_option maxRecDepth 100000
set_option maxHeartbeats 8000000
namespace Mine
theorem words34_0 : True := by
  k_with_none
  k_with "execs cons" => first | (k_here; k_gentoks) | ((with_reducible refine wpAny_execs_cons ?_); k_fold)
  k_with "k_mem" => ((repeat' (first | (with_reducible exact mq0) | ktr_member | (with_reducible exact mq1) | (with_reducible exact mq2) | (with_reducible exact mq3) | (with_reducible exact mq4) | (with_reducible exact mq5) | (with_reducible exact mq6) | (with_reducible exact mq7) | (with_reducible exact mq8) | (with_reducible exact mq9) | (with_reducible refine mqt ?_))); done)
  k_with "mul_fits" => exact Fit.mul (by assumption) (by assumption)
  k_with "k_mem" => ((repeat' (first | (with_reducible exact mq0) | ktr_member | (with_reducible exact mq1) | (with_reducible exact mq2) | (with_reducible exact mq3) | (with_reducible exact mq4) | (with_reducible exact mq5) | (with_reducible exact mq6) | (with_reducible exact mq7) | (with_reducible exact mq8) | (with_reducible exact mq9) | (with_reducible refine mqt ?_) | (refine' mem_sub ?oa_w87 ?ob_w87; (case oa_w87 => with_reducible assumption); (case ob_w87 => with_reducible assumption)))); done)
  k_with "k_ne" => first | (with_reducible refine' neN ?oa_w11; (case oa_w11 => with_reducible assumption)) | (refine' ne_symN ?oa_w11; (case oa_w11 => with_reducible assumption)) | (refine' nsl1 ?oa_w11; (case oa_w11 => repeat' (first | exact Nat.le_refl _ | refine Nat.le_succ_of_le ?_))) | (refine' nsr1 ?oa_w11; (case oa_w11 => repeat' (first | exact Nat.le_refl _ | refine Nat.le_succ_of_le ?_))) | (refine' Ne3.ci ?oa_w11; (case oa_w11 => with_reducible assumption)) | (refine' Ne3.di ?oa_w11; (case oa_w11 => with_reducible assumption)) | (refine' Ne3.dc ?oa_w11; (case oa_w11 => with_reducible assumption)) | (refine' ne_lt ?oa_w11 ?ob_w11; (case oa_w11 => with_reducible assumption); (case ob_w11 => k_mem)) | (refine' ne_lt' ?oa_w11 ?ob_w11; (case oa_w11 => with_reducible assumption); (case ob_w11 => k_mem)) | (refine' ne_off1 ?oa_w11 ?ob_w11; (case oa_w11 => with_reducible assumption); (case ob_w11 => k_mem)) | (refine' ne_off1' ?oa_w11 ?ob_w11; (case oa_w11 => with_reducible assumption); (case ob_w11 => k_mem)) | (refine' ne_off3I ?oa_w11 ?ob_w11; (case oa_w11 => with_reducible assumption); (case ob_w11 => k_mem)) | (refine' ne_off3C ?oa_w11 ?ob_w11; (case oa_w11 => with_reducible assumption); (case ob_w11 => k_mem)) | (refine' ne_off3D ?oa_w11 ?ob_w11; (case oa_w11 => with_reducible assumption); (case ob_w11 => k_mem)) | (refine' ne_off3I' ?oa_w11 ?ob_w11; (case oa_w11 => with_reducible assumption); (case ob_w11 => k_mem)) | (refine' ne_off3C' ?oa_w11 ?ob_w11; (case oa_w11 => with_reducible assumption); (case ob_w11 => k_mem)) | (refine' ne_off3D' ?oa_w11 ?ob_w11; (case oa_w11 => with_reducible assumption); (case ob_w11 => k_mem)) | ((refine neN ?_); (try dsimp only); first | (with_reducible assumption) | (refine' ne_symN ?oa_w11; (case oa_w11 => with_reducible assumption)) | (refine' nsl1 ?oa_w11; (case oa_w11 => repeat' (first | exact Nat.le_refl _ | refine Nat.le_succ_of_le ?_))) | (refine' nsr1 ?oa_w11; (case oa_w11 => repeat' (first | exact Nat.le_refl _ | refine Nat.le_succ_of_le ?_))) | (refine' Ne3.ci ?oa_w11; (case oa_w11 => with_reducible assumption)) | (refine' Ne3.di ?oa_w11; (case oa_w11 => with_reducible assumption)) | (refine' Ne3.dc ?oa_w11; (case oa_w11 => with_reducible assumption)) | (refine' ne_lt ?oa_w11 ?ob_w11; (case oa_w11 => with_reducible assumption); (case ob_w11 => k_mem)) | (refine' ne_lt' ?oa_w11 ?ob_w11; (case oa_w11 => with_reducible assumption); (case ob_w11 => k_mem)) | (refine' ne_off1 ?oa_w11 ?ob_w11; (case oa_w11 => with_reducible assumption); (case ob_w11 => k_mem)) | (refine' ne_off1' ?oa_w11 ?ob_w11; (case oa_w11 => with_reducible assumption); (case ob_w11 => k_mem)) | (refine' ne_off3I ?oa_w11 ?ob_w11; (case oa_w11 => with_reducible assumption); (case ob_w11 => k_mem)) | (refine' ne_off3C ?oa_w11 ?ob_w11; (case oa_w11 => with_reducible assumption); (case ob_w11 => k_mem)) | (refine' ne_off3D ?oa_w11 ?ob_w11; (case oa_w11 => with_reducible assumption); (case ob_w11 => k_mem)) | (refine' ne_off3I' ?oa_w11 ?ob_w11; (case oa_w11 => with_reducible assumption); (case ob_w11 => k_mem)) | (refine' ne_off3C' ?oa_w11 ?ob_w11; (case oa_w11 => with_reducible assumption); (case ob_w11 => k_mem)) | (refine' ne_off3D' ?oa_w11 ?ob_w11; (case oa_w11 => with_reducible assumption); (case ob_w11 => k_mem)) | omega)
  k_with "k_all" => ((repeat' (first | (with_reducible refine' ne_cons ?_ ?_) | (with_reducible refine' List.forall_mem_cons.mpr ⟨?_, ?_⟩) | exact List.forall_mem_nil _ | (refine' ne_id ?oa_w12; (case oa_w12 => with_reducible assumption)) | (refine' tail_lt ?oa_w12 ?ob_w12; (case oa_w12 => with_reducible assumption); (case ob_w12 => kcj_all)) | (refine' tail_off1 ?oa_w12 ?ob_w12; (case oa_w12 => with_reducible assumption); (case ob_w12 => kcj_all)) | (refine' tail_off3I ?oa_w12 ?ob_w12; (case oa_w12 => with_reducible assumption); (case ob_w12 => kcj_all)) | (refine' tail_off3C ?oa_w12 ?ob_w12; (case oa_w12 => with_reducible assumption); (case ob_w12 => kcj_all)) | (refine' tail_off3D ?oa_w12 ?ob_w12; (case oa_w12 => with_reducible assumption); (case ob_w12 => kcj_all)) | (refine' ne_of_allLt_le ?oa_w12 ?ob_w12; (case oa_w12 => with_reducible assumption); (case ob_w12 => omega)) | k_ne)); done)
  k_with "k_upd" => ((repeat' (first | (with_reducible refine' Del.head ?_) | (with_reducible refine' Del.tail ?_ ?_) | (with_reducible refine' Upd.head ?_) | (with_reducible refine' Upd.tail ?_ ?_) | (with_reducible refine' UpdF.head ?_) | (with_reducible refine' UpdF.tail ?_ ?_) | k_all | k_ne)); done)
  k_with "kcj_all" => ((repeat' (first | (with_reducible exact mem_same) | exact List.forall_mem_nil _ | (with_reducible refine' sub_cons ?_ ?_) | (with_reducible refine' List.forall_mem_cons.mpr ⟨?_, ?_⟩) | (with_reducible refine' mem_step ?_) | k_mem)); done)
  k_with "CompRest" => (with_unfolding_all first | (refine LCg.CompRest.succ ?_; intro v'_w36 I'_w36 oI'_w36 C'_w36 oC'_w36 D'_w36 m'_w36 h'_w36 tk'_w36 E'_w36 hv'_w36 hC'_w36 hx'_w36 F'_w36 N'_w36 off'_w36 ne'_w36; (first | lcg_open hv'_w36 | (obtain ⟨t9'_w36, hv9'_w36⟩ := hv'_w36; subst hv9'_w36)); (replace ne'_w36 := Ne3.mk' ne'_w36)) | refine LCg.CompRest.zero ?_)
  k_with "CompEnd" => (k_here; k_dflt (refine' comp_keep ?F_w37 ?N_w37 ?O_w37 ?K_w37 ?h1_w37 ?h2_w37 ?h3_w37 ?hs_w37 ?S_w37 ?_; (case F_w37 => k_asm); (case N_w37 => k_asm); (case O_w37 => with_reducible assumption); (case K_w37 => k_mem); (case h1_w37 => k_ne); (case h2_w37 => k_ne); (case h3_w37 => k_ne); (case hs_w37 => ((repeat' (first | (with_reducible exact mem_same) | (with_reducible refine' mem_step ?_))); done)); (case S_w37 => lcg_src)))
  k_with "FinE" => ((unfold LCg.FinE); intro D'_w38 h'_w38 tk'_w38 F'_w38 N'_w38 o1'_w38; (try simp only [List.nil_append, List.cons_append] at N'_w38); (try dsimp only))
  k_with "FinA" => ((unfold LCg.FinA); intro D'_w39 h'_w39 tk'_w39 F'_w39 N'_w39 o1'_w39; (try simp only [List.nil_append, List.cons_append] at N'_w39); (try dsimp only))
  k_with "UnrEnd" => (k_here; k_dflt (refine' unr_keep (o := tup2 _ _ _ _ _) ?F_w40 ?N_w40 ?hs_w40 ?K_w40 ?h1_w40 ?off_w40 ?_; (case F_w40 => k_asm); (case N_w40 => k_asm); (case hs_w40 => ((repeat' (first | (with_reducible exact mem_same) | (with_reducible refine' mem_step ?_))); done)); (case K_w40 => k_mem); (case h1_w40 => k_ne); (case off_w40 => k_all)); (try (refine ⟨by k_mem, ?_⟩)))
  k_with "call ref" => (k_here; (with_reducible show wpAny _ _ (call (Value.ref 74) _) _ _ _); k_dflt (refine' sum_use ?k1_w15 ?k2_w15 ?k3_w15 ?k4_w15 ?k5_w15 ?kK_w15 ?kd_w15 ?ku_w15 ?g_w15 ?hx_w15 ?hy_w15 ?i1_w15 ?i2_w15 ?i3_w15 ?i4_w15 ?hp_w15 ?hq_w15 ?hs_w15 ?_; (case k1_w15 => k_asm); (case k2_w15 => k_asm); (case k3_w15 => k_asm); (case k4_w15 => k_asm); (case k5_w15 => k_asm); (case kK_w15 => first | exact rfl | assumption); (case kd_w15 => ktr_room); (case ku_w15 => ktr_units); (case g_w15 => assumption); (case hx_w15 => k_mem); (case hy_w15 => k_mem); (case i1_w15 => first | exact rfl | exact num0 | exact num1); (case i2_w15 => first | exact rfl | exact den0 | exact den1); (case i3_w15 => first | exact rfl | exact num0 | exact num1); (case i4_w15 => first | exact rfl | exact den0 | exact den1); (case hp_w15 => first | (with_reducible assumption) | exact Sz.zero | exact Sz.one); (case hq_w15 => first | (with_reducible assumption) | exact Sz.zero | exact Sz.one); (case hs_w15 => omega); k_whole); intro D'_w15 u1'_w15 u2'_w15 c'_w15 h'_w15 tk'_w15 F'_w15 N'_w15 l1'_w15 sz'_w15; (try dsimp only); (try k_fold))
  k_with "call ref" => (k_here; (with_reducible show wpAny _ _ (call (Value.ref 81) _) _ _ _); k_dflt (refine' diff_use ?k1_w16 ?k2_w16 ?k3_w16 ?k4_w16 ?k5_w16 ?kK_w16 ?kd_w16 ?ku_w16 ?g_w16 ?hx_w16 ?hy_w16 ?i1_w16 ?i2_w16 ?i3_w16 ?i4_w16 ?hp_w16 ?hq_w16 ?hs_w16 ?_; (case k1_w16 => k_asm); (case k2_w16 => k_asm); (case k3_w16 => k_asm); (case k4_w16 => k_asm); (case k5_w16 => k_asm); (case kK_w16 => first | exact rfl | assumption); (case kd_w16 => ktr_room); (case ku_w16 => ktr_units); (case g_w16 => assumption); (case hx_w16 => k_mem); (case hy_w16 => k_mem); (case i1_w16 => first | exact rfl | exact num0 | exact num1); (case i2_w16 => first | exact rfl | exact den0 | exact den1); (case i3_w16 => first | exact rfl | exact num0 | exact num1); (case i4_w16 => first | exact rfl | exact den0 | exact den1); (case hp_w16 => first | (with_reducible assumption) | exact Sz.zero | exact Sz.one); (case hq_w16 => first | (with_reducible assumption) | exact Sz.zero | exact Sz.one); (case hs_w16 => omega); k_whole); intro D'_w16 u1'_w16 u2'_w16 c'_w16 h'_w16 tk'_w16 F'_w16 N'_w16 l1'_w16 sz'_w16; (try dsimp only); (try k_fold))
  k_with "call ref" => (k_here; (with_reducible show wpAny _ _ (call (Value.ref 88) _) _ _ _); k_dflt (refine' prod_use ?k1_w17 ?k2_w17 ?k3_w17 ?k4_w17 ?k5_w17 ?kK_w17 ?kd_w17 ?ku_w17 ?g_w17 ?hx_w17 ?hy_w17 ?i1_w17 ?i2_w17 ?i3_w17 ?i4_w17 ?hp_w17 ?hq_w17 ?hs_w17 ?_; (case k1_w17 => k_asm); (case k2_w17 => k_asm); (case k3_w17 => k_asm); (case k4_w17 => k_asm); (case k5_w17 => k_asm); (case kK_w17 => first | exact rfl | assumption); (case kd_w17 => ktr_room); (case ku_w17 => ktr_units); (case g_w17 => assumption); (case hx_w17 => k_mem); (case hy_w17 => k_mem); (case i1_w17 => first | exact rfl | exact num0 | exact num1); (case i2_w17 => first | exact rfl | exact den0 | exact den1); (case i3_w17 => first | exact rfl | exact num0 | exact num1); (case i4_w17 => first | exact rfl | exact den0 | exact den1); (case hp_w17 => first | (with_reducible assumption) | exact Sz.zero | exact Sz.one); (case hq_w17 => first | (with_reducible assumption) | exact Sz.zero | exact Sz.one); (case hs_w17 => omega); k_whole); intro D'_w17 u1'_w17 u2'_w17 c'_w17 h'_w17 tk'_w17 F'_w17 N'_w17 l1'_w17 sz'_w17; (try dsimp only); (try k_fold))
  k_with "call ref" => (k_here; (with_reducible show wpAny _ _ (call (Value.ref 95) _) _ _ _); k_dflt (refine' quot_use ?k1_w18 ?k2_w18 ?k3_w18 ?k4_w18 ?k5_w18 ?kK_w18 ?kd_w18 ?ku_w18 ?g_w18 ?hx_w18 ?hy_w18 ?i1_w18 ?i2_w18 ?i3_w18 ?i4_w18 ?hp_w18 ?hq_w18 ?hs_w18 ?hn_w18 ?_; (case k1_w18 => k_asm); (case k2_w18 => k_asm); (case k3_w18 => k_asm); (case k4_w18 => k_asm); (case k5_w18 => k_asm); (case kK_w18 => first | exact rfl | assumption); (case kd_w18 => ktr_room); (case ku_w18 => ktr_units); (case g_w18 => assumption); (case hx_w18 => k_mem); (case hy_w18 => k_mem); (case i1_w18 => first | exact rfl | exact num0 | exact num1); (case i2_w18 => first | exact rfl | exact den0 | exact den1); (case i3_w18 => first | exact rfl | exact num0 | exact num1); (case i4_w18 => first | exact rfl | exact den0 | exact den1); (case hp_w18 => first | (with_reducible assumption) | exact Sz.zero | exact Sz.one); (case hq_w18 => first | (with_reducible assumption) | exact Sz.zero | exact Sz.one); (case hs_w18 => omega); (case hn_w18 => assumption); k_whole); intro D'_w18 u1'_w18 u2'_w18 c'_w18 h'_w18 tk'_w18 F'_w18 N'_w18 l1'_w18 sz'_w18; (try dsimp only); (try k_fold))
  k_with "call ref" => (k_here; (with_reducible show wpAny _ _ (call (Value.ref 102) _) _ _ _); k_dflt (refine' neg_use ?k1_w19 ?k2_w19 ?k3_w19 ?k4_w19 ?k5_w19 ?kK_w19 ?kd_w19 ?ku_w19 ?hx_w19 ?i1_w19 ?i2_w19 ?hp_w19 ?_; (case k1_w19 => k_asm); (case k2_w19 => k_asm); (case k3_w19 => k_asm); (case k4_w19 => k_asm); (case k5_w19 => k_asm); (case kK_w19 => first | exact rfl | assumption); (case kd_w19 => ktr_room); (case ku_w19 => ktr_units); (case hx_w19 => k_mem); (case i1_w19 => first | exact rfl | exact num0 | exact num1); (case i2_w19 => first | exact rfl | exact den0 | exact den1); (case hp_w19 => first | (with_reducible assumption) | exact Sz.zero | exact Sz.one); k_whole); intro D'_w19 u1'_w19 u2'_w19 c'_w19 h'_w19 tk'_w19 F'_w19 N'_w19 l1'_w19 sz'_w19; (try dsimp only); (try k_fold))
  k_with "call ref" => (k_here; (with_reducible show wpAny _ _ (call (Value.ref 116) _) _ _ _); k_dflt (refine' order_use ?k1_w20 ?k2_w20 ?k3_w20 ?k4_w20 ?k5_w20 ?kK_w20 ?kd_w20 ?ku_w20 ?hx_w20 ?hy_w20 ?i1_w20 ?i2_w20 ?i3_w20 ?i4_w20 ?hp_w20 ?hq_w20 ?hs_w20 ?_; (case k1_w20 => k_asm); (case k2_w20 => k_asm); (case k3_w20 => k_asm); (case k4_w20 => k_asm); (case k5_w20 => k_asm); (case kK_w20 => first | exact rfl | assumption); (case kd_w20 => ktr_room); (case ku_w20 => ktr_units); (case hx_w20 => k_mem); (case hy_w20 => k_mem); (case i1_w20 => first | exact rfl | exact num0 | exact num1); (case i2_w20 => first | exact rfl | exact den0 | exact den1); (case i3_w20 => first | exact rfl | exact num0 | exact num1); (case i4_w20 => first | exact rfl | exact den0 | exact den1); (case hp_w20 => first | (with_reducible assumption) | exact Sz.zero | exact Sz.one); (case hq_w20 => first | (with_reducible assumption) | exact Sz.zero | exact Sz.one); (case hs_w20 => omega); k_whole); intro u'_w20 h'_w20 tk'_w20 F'_w20 N'_w20; (try dsimp only); (try k_fold))
  k_with "subscriptTail" => (k_here; (with_reducible show wpAny _ _ (subscriptTail _ _ (Value.ref _) (Value.int _ _)) _ _ _); k_dflt (refine' item_led ?N_w24 ?m_w24 ?a_w24 ?b_w24 ?x_w24 ?_; (case N_w24 => k_asm); (case m_w24 => k_mem); (case a_w24 => decide); (case b_w24 => decide); (case x_w24 => exact rfl); k_whole))
  k_with "subscriptTail Name" => (k_here; (with_reducible show wpAny _ _ (subscriptTail _ _ (Value.ref _) (Value.int _ _)) _ _ _); k_dflt (refine' item_led ?N_w25 ?m_w25 ?a_w25 ?b_w25 ?x_w25 ?_; (case N_w25 => k_asm); (case m_w25 => k_mem); (case a_w25 => decide); (case b_w25 => decide); (case x_w25 => exact rfl); k_whole))
  k_with "subscriptTail Name Constant ref int" => (k_here; (with_reducible show wpAny _ _ (subscriptTail _ _ (Value.ref _) (Value.int _ _)) _ _ _); k_dflt (refine' item_led ?N_w26 ?m_w26 ?a_w26 ?b_w26 ?x_w26 ?_; (case N_w26 => k_asm); (case m_w26 => k_mem); (case a_w26 => decide); (case b_w26 => decide); (case x_w26 => exact rfl); k_whole))
  k_with "subscriptTail Name Name ref int" => (k_here; (with_reducible show wpAny _ _ (subscriptTail _ _ (Value.ref _) (Value.int _ _)) _ _ _); k_dflt (refine' item_led ?N_w27 ?m_w27 ?a_w27 ?b_w27 ?x_w27 ?_; (case N_w27 => k_asm); (case m_w27 => k_mem); (case a_w27 => decide); (case b_w27 => decide); (case x_w27 => exact rfl); k_whole))
  k_with "subscriptTail Subscript Name Constant Name ref int" => (k_here; (with_reducible show wpAny _ _ (subscriptTail _ _ (Value.ref _) (Value.int _ _)) _ _ _); k_dflt (refine' item_led ?N_w28 ?m_w28 ?a_w28 ?b_w28 ?x_w28 ?_; (case N_w28 => k_asm); (case m_w28 => k_mem); (case a_w28 => decide); (case b_w28 => decide); (case x_w28 => exact rfl); k_whole))
  k_with "subscriptTail Subscript Name Constant Constant ref int" => (k_here; (with_reducible show wpAny _ _ (subscriptTail _ _ (Value.ref _) (Value.int _ _)) _ _ _); k_dflt (refine' item_led ?N_w29 ?m_w29 ?a_w29 ?b_w29 ?x_w29 ?_; (case N_w29 => k_asm); (case m_w29 => k_mem); (case a_w29 => decide); (case b_w29 => decide); (case x_w29 => exact rfl); k_whole))
  k_with "subscriptTail Subscript Name Name Name ref int" => (k_here; (with_reducible show wpAny _ _ (subscriptTail _ _ (Value.ref _) (Value.int _ _)) _ _ _); k_dflt (refine' item_led ?N_w30 ?m_w30 ?a_w30 ?b_w30 ?x_w30 ?_; (case N_w30 => k_asm); (case m_w30 => k_mem); (case a_w30 => decide); (case b_w30 => decide); (case x_w30 => exact rfl); k_whole))
  k_with "subscriptTail Subscript Name Name Constant ref int" => (k_here; (with_reducible show wpAny _ _ (subscriptTail _ _ (Value.ref _) (Value.int _ _)) _ _ _); k_dflt (refine' item_led ?N_w31 ?m_w31 ?a_w31 ?b_w31 ?x_w31 ?_; (case N_w31 => k_asm); (case m_w31 => k_mem); (case a_w31 => decide); (case b_w31 => decide); (case x_w31 => exact rfl); k_whole))
  k_with "getItem ref int" => (k_here; (with_reducible show wpAny _ _ (getItem (Value.ref _) (Value.int _ _)) _ _ _); k_dflt (refine' getItem_led ?N_w32 ?m_w32 ?a_w32 ?b_w32 ?x_w32 ?_; (case N_w32 => k_asm); (case m_w32 => k_mem); (case a_w32 => decide); (case b_w32 => decide); (case x_w32 => exact rfl); k_whole))
  k_with "callWith builtin:list.append cons nil" => refine callWith_method1 ?_
  k_with "callWith builtin:len nil nil" => refine callWith_builtin1 ?_
  k_with "callWith builtin:len cons nil" => refine callWith_builtin1 ?_
  k_with "exec Assign cons ListComp" => (k_here; k_dflt (refine LCg.Assign_ListComp_U (F₀ := by k_asm) (by rfl) (by with_unfolding_all rfl) (by with_unfolding_all rfl) (by decide) (by rfl) (by decide) (by rfl) (by rfl) (by rfl) ?_))
  k_with "CompSrc" => (k_here; k_dflt (refine' LCg.CompSrc.ledger ?hh_w45 ?F_w45 ?N_w45 ?hm_w45 ?hz_w45 ?_; (case hh_w45 => exact rfl); (case F_w45 => k_asm); (case N_w45 => k_asm); (case hm_w45 => k_mem); (case hz_w45 => first | exact Nat.le_of_ble_eq_true rfl | size_fits)); intro g'_w45; lcg_lit)
  k_with "call builtin:list.append cons nil" => (k_here; k_dflt (refine' append_K ?k1_w46 ?k2_w46 ?k3_w46 ?_ ?z_w46; (case k1_w46 => k_asm); (case k2_w46 => k_asm); (case k3_w46 => k_upd); (case z_w46 => size_fits); k_whole); intro h'_w46 F'_w46 N'_w46; (try k_sweep))
  k_with "eval Name" => (k_here; (with_reducible show wpAny _ _ (eval (PySem.Expr.Name _ _) (envOfC _ _ _ _ _)) _ _ _); k_dflt (first | (refine' nameX_L ?F_w47 ?v_w47 ?_ ?a_w47 ?b_w47; (case a_w47 => rfl); (case b_w47 => rfl); (case F_w47 => k_asm); (case v_w47 => rfl); k_whole) | (refine' nameX_C ?N_w47 ?c_w47 ?m_w47 ?d_w47 ?_ ?a_w47 ?b_w47; (case a_w47 => rfl); (case b_w47 => rfl); (case N_w47 => k_asm); (case c_w47 => rfl); (case m_w47 => k_mem); (case d_w47 => with_reducible assumption); k_whole) | (refine' nameX_K ?F_w47 ?X_w47 ?T_w47 ?e_w47 ?_ ?a_w47 ?b_w47; (case a_w47 => rfl); (case b_w47 => rfl); (case F_w47 => k_asm); (case X_w47 => k_asm); (case T_w47 => k_asm); (case e_w47 => k_is); k_whole)))
  k_with "eval Name" => (k_here; (with_reducible show wpAny _ _ (eval (PySem.Expr.Name _ _) (envOfC _ _ _ _ _)) _ _ _); k_dflt (first | (refine' nameX_L ?F_w75 ?v_w75 ?_ ?a_w75 ?b_w75; (case a_w75 => rfl); (case b_w75 => rfl); (case F_w75 => k_asm); (case v_w75 => first | rfl | assumption); k_whole) | (refine' nameX_C ?N_w75 ?c_w75 ?m_w75 ?d_w75 ?_ ?a_w75 ?b_w75; (case a_w75 => rfl); (case b_w75 => rfl); (case N_w75 => k_asm); (case c_w75 => rfl); (case m_w75 => k_mem); (case d_w75 => with_reducible assumption); k_whole) | (refine' nameX_K ?F_w75 ?X_w75 ?T_w75 ?e_w75 ?_ ?a_w75 ?b_w75; (case a_w75 => rfl); (case b_w75 => rfl); (case F_w75 => k_asm); (case X_w75 => k_asm); (case T_w75 => k_asm); (case e_w75 => k_is); k_whole)))
  k_with "CompEnd" => (k_here; k_dflt (refine' comp_keep (o := listObj _ _) ?F_w64 ?N_w64 ?O_w64 ?K_w64 ?h1_w64 ?h2_w64 ?h3_w64 ?hs_w64 ?S_w64 ?_; (case F_w64 => k_asm); (case N_w64 => k_asm); (case O_w64 => with_reducible assumption); (case K_w64 => k_mem); (case h1_w64 => k_ne); (case h2_w64 => k_ne); (case h3_w64 => k_ne); (case hs_w64 => ((repeat' (first | (with_reducible exact mem_same) | (with_reducible refine' mem_step ?_))); done)); (case S_w64 => lcg_src)))
  k_with "CompEnd" => (k_here; k_dflt (refine' comp_del ?F_w52 ?N_w52 ?D1_w52 ?D2_w52 ?D3_w52 ?S_w52 ?_; (case F_w52 => k_asm); (case N_w52 => k_asm); (case D1_w52 => k_upd); (case D2_w52 => k_upd); (case D3_w52 => k_upd); (case S_w52 => lcg_src)))
  k_with "CompEnd" => (k_here; k_dflt (refine' comp_keep (o := tup2 _ _ _ _ _) ?F_w53 ?N_w53 ?O_w53 ?K_w53 ?h1_w53 ?h2_w53 ?h3_w53 ?hs_w53 ?S_w53 ?_; (case F_w53 => k_asm); (case N_w53 => k_asm); (case hs_w53 => ((repeat' (first | (with_reducible exact mem_same) | (with_reducible refine' mem_step ?_))); done)); (case O_w53 => first | (with_reducible assumption) | (refine' off3_addr ?oa_w53 ?ob_w53; (case oa_w53 => with_reducible assumption); (case ob_w53 => exact rfl))); (case K_w53 => k_mem); (case h1_w53 => k_ne); (case h2_w53 => k_ne); (case h3_w53 => k_ne); (case S_w53 => lcg_src)))
  k_with "CompSrc" => (k_here; k_dflt (refine LCg.CompSrc.range (by rfl) (by k_asm) (by k_asm) (by assumption) (by first | decide | rfl) (by first | rfl | decide) (by first | size_fits | exact Nat.le_of_ble_eq_true rfl) ?_; intro g'_w54; lcg_lit))
  k_with "eval ListComp" => (k_here; k_dflt (refine LCg.ListComp_U (F₀ := by k_asm) (by with_unfolding_all rfl) (by decide) (by rfl) (by decide) (by rfl) ?_))
  k_with "CompSrc" => (k_here; k_dflt (refine LCg.CompSrc.range (by rfl) (by k_asm) (by k_asm) (by assumption) (by first | decide | rfl) (by first | rfl | decide) (by first | size_fits | exact Nat.le_of_ble_eq_true rfl) ?_; intro g'_w54; lcg_lit))
  k_with "call ref" => (k_here; (with_reducible show wpAny _ _ (call (Value.ref 67) _) _ _ _); k_dflt (refine' make_use ?k1_w56 ?k2_w56 ?k3_w56 ?k4_w56 ?k5_w56 ?kK_w56 ?kd_w56 ?ku_w56 ?g_w56 ?h1_w56 ?h2_w56 ?h3_w56 ?h4_w56 ?_; (case k1_w56 => k_asm); (case k2_w56 => k_asm); (case k3_w56 => k_asm); (case k4_w56 => k_asm); (case k5_w56 => k_asm); (case kK_w56 => first | exact rfl | assumption); (case kd_w56 => ktr_room); (case ku_w56 => ktr_units); (case g_w56 => assumption); (case h1_w56 => omega); (case h2_w56 => omega); (case h3_w56 => omega); (case h4_w56 => omega); k_whole); intro D'_w56 u1'_w56 u2'_w56 c'_w56 h'_w56 tk'_w56 F'_w56 N'_w56 l1'_w56 en'_w56 sz'_w56; (try (replace en'_w56 := en'_w56 (by omega) (by omega) (by omega))); (try dsimp only); (try k_fold))
  k_with "call ref" => (k_here; (with_reducible show wpAny _ _ (call (Value.ref 131) _) _ _ _); k_dflt (refine' use_plate ?k1_w57 ?k2_w57 ?k3_w57 ?k4_w57 ?k5_w57 ?kK_w57 ?kd_w57 ?ku_w57 ?U_w57 ?hS_w57 ?hv_w57 ?hl_w57 ?h0_w57 ?h1_w57 ?hm_w57 ?hm2_w57 ?hne_w57 ?_; (case k1_w57 => k_asm); (case k2_w57 => k_asm); (case k3_w57 => k_asm); (case k4_w57 => k_asm); (case k5_w57 => k_asm); (case kK_w57 => first | exact rfl | assumption); (case kd_w57 => ktr_room); (case ku_w57 => ktr_units); (case U_w57 => k_upd); (case hS_w57 => k_mem); (case hv_w57 => with_reducible assumption); (case hl_w57 => assumption); (case h0_w57 => omega); (case h1_w57 => omega); (case hm_w57 => decide); (case hm2_w57 => decide); (case hne_w57 => assumption); k_whole); intro v'_w57 u'_w57 t'_w57 h'_w57 tk'_w57 hv0'_w57 hv1'_w57 F'_w57 N'_w57; (refine' upd_then N'_w57 ?U_w57 ?_; (case U_w57 => k_upd)); clear N'_w57; intro N'_w57; (try dsimp only); (try k_fold))
  k_with "subscriptTail Name UnaryOp ref int" => (k_here; (with_reducible show wpAny _ _ (subscriptTail _ _ (Value.ref _) (Value.int _ _)) _ _ _); k_dflt (refine' item_last4 ?N_w88 ?m_w88 ?_; (case N_w88 => k_asm); (case m_w88 => k_mem); k_whole))
  k_with "getItem ref int" => (k_here; (with_reducible show wpAny _ _ (getItem (Value.ref _) (Value.int (-1) _)) _ _ _); k_dflt (refine' getItem_last4 ?N_w89 ?m_w89 ?_; (case N_w89 => k_asm); (case m_w89 => k_mem); k_whole))
  k_with "compareOp Eq ref ref" => (k_here; (with_reducible show wpAny _ _ (compareOp CmpOp.Eq (Value.ref _) (Value.ref _)) _ _ _); k_dflt (refine' eq_rats ?N_w77 ?ha_w77 ?hb_w77 ?i1_w77 ?i2_w77 ?i3_w77 ?i4_w77 ?hu_w77 ?_; (case N_w77 => k_asm); (case ha_w77 => k_mem); (case hb_w77 => k_mem); (case i1_w77 => first | exact rfl | exact num0 | exact num1); (case i2_w77 => first | exact rfl | exact den0 | exact den1); (case i3_w77 => first | exact rfl | exact num0 | exact num1); (case i4_w77 => first | exact rfl | exact den0 | exact den1); (case hu_w77 => first | ktr_units | units_room | omega); k_whole))
  k_with "compareOp NotEq ref ref" => (k_here; (with_reducible show wpAny _ _ (compareOp CmpOp.NotEq (Value.ref _) (Value.ref _)) _ _ _); k_dflt (refine' ne_rats ?N_w78 ?ha_w78 ?hb_w78 ?i1_w78 ?i2_w78 ?i3_w78 ?i4_w78 ?hu_w78 ?_; (case N_w78 => k_asm); (case ha_w78 => k_mem); (case hb_w78 => k_mem); (case i1_w78 => first | exact rfl | exact num0 | exact num1); (case i2_w78 => first | exact rfl | exact den0 | exact den1); (case i3_w78 => first | exact rfl | exact num0 | exact num1); (case i4_w78 => first | exact rfl | exact den0 | exact den1); (case hu_w78 => first | ktr_units | units_room | omega); k_whole))
  k_with "compareOp NotEq ref ref" => (k_here; (with_reducible show wpAny _ _ (compareOp CmpOp.NotEq (Value.ref _) (Value.ref _)) _ _ _); k_dflt (refine' neK_lists ?N_w90 ?ha_w90 ?hb_w90 ?m0_w90 ?m1_w90 ?m2_w90 ?n0_w90 ?n1_w90 ?n2_w90 ?w0_w90 ?w1_w90 ?w2_w90 ?hu_w90 ?_; (case N_w90 => k_asm); (case ha_w90 => k_mem); (case hb_w90 => k_mem); (case m0_w90 => k_mem); (case m1_w90 => k_mem); (case m2_w90 => k_mem); (case n0_w90 => k_mem); (case n1_w90 => k_mem); (case n2_w90 => k_mem); (case hu_w90 => first | ktr_units | units_room | omega); (case w0_w90 => with_reducible assumption); (case w1_w90 => with_reducible assumption); (case w2_w90 => with_reducible assumption); k_whole))
  k_with "compareOp NotEq ref ref" => (k_here; (with_reducible show wpAny _ _ (compareOp CmpOp.NotEq (Value.ref _) (Value.ref _)) _ _ _); k_dflt (refine' neK_rats ?N_w91 ?ha_w91 ?hb_w91 ?i1_w91 ?i2_w91 ?i3_w91 ?i4_w91 ?hu_w91 ?e_w91 ?_; (case N_w91 => k_asm); (case ha_w91 => k_mem); (case hb_w91 => k_mem); (case i1_w91 => exact rfl); (case i2_w91 => exact rfl); (case i3_w91 => exact rfl); (case i4_w91 => exact rfl); (case hu_w91 => first | ktr_units | units_room | omega); (case e_w91 => first | exact det2_mulN | exact det2_rows2 | exact det2_oft | assumption); k_whole))
  k_with "compareOp Eq ref ref" => (k_here; (with_reducible show wpAny _ _ (compareOp CmpOp.Eq (Value.ref _) (Value.ref _)) _ _ _); k_dflt (refine' eqK_rats ?N_w92 ?ha_w92 ?hb_w92 ?i1_w92 ?i2_w92 ?i3_w92 ?i4_w92 ?hu_w92 ?e_w92 ?_; (case N_w92 => k_asm); (case ha_w92 => k_mem); (case hb_w92 => k_mem); (case i1_w92 => exact rfl); (case i2_w92 => exact rfl); (case i3_w92 => exact rfl); (case i4_w92 => exact rfl); (case hu_w92 => first | ktr_units | units_room | omega); (case e_w92 => with_reducible assumption); k_whole))
  k_with "kc_close" => (kc_bool; exact goodW_bool (by with_reducible assumption) (by with_reducible assumption) (raisesW_false (law_raises _)) (law_post _))
  k_with "wrow_close" => (w_end; exact goodW_bool (by with_reducible assumption) (by with_reducible assumption) (raisesW_false (law_raises _)) (law_post _))
  k_with "kcj_all" => ((repeat' (first | (with_reducible assumption) | (with_reducible exact mem_same) | exact List.forall_mem_nil _ | (with_reducible refine' sub_cons ?_ ?_) | (with_reducible refine' List.forall_mem_cons.mpr ⟨?_, ?_⟩) | (with_reducible refine' mem_step ?_) | k_mem)); done)
  k_with "kcj_all" => ((repeat' (first | (with_reducible assumption) | (with_reducible exact mem_same) | exact List.forall_mem_nil _ | (with_reducible refine' sub_cons ?_ ?_) | (with_reducible refine' List.forall_mem_cons.mpr ⟨?_, ?_⟩) | (with_reducible refine' mem_step ?_) | (with_reducible refine' mem_app ?_) | k_mem)); done)
  k_with "k_upd" => ((repeat' (first | (with_reducible refine' Del.head ?_) | (with_reducible refine' Del.tail ?_ ?_) | (with_reducible refine' Del.app ?_ ?_) | (with_reducible refine' Upd.head ?_) | (with_reducible refine' Upd.tail ?_ ?_) | (with_reducible refine' UpdF.head ?_) | (with_reducible refine' UpdF.tail ?_ ?_) | (with_reducible assumption) | k_all | k_ne)); done)
  k_with "CompEnd" => (k_here; (try simp only [List.nil_append, List.cons_append]); (rename News _ _ _ _ => lN'_w97); (try simp only [List.nil_append, List.cons_append] at lN'_w97); k_dflt (refine' comp_del ?F_w97 ?N_w97 ?D1_w97 ?D2_w97 ?D3_w97 ?S_w97 ?_; (case F_w97 => k_asm); (case N_w97 => k_asm); (case D1_w97 => k_upd); (case D2_w97 => k_upd); (case D3_w97 => k_upd); (case S_w97 => lcg_src)))
  k_with "CompEnd" => (k_here; k_dflt (refine' comp_keep (o := tup2 _ _ _ _ _) ?F_w53 ?N_w53 ?O_w53 ?K_w53 ?h1_w53 ?h2_w53 ?h3_w53 ?hs_w53 ?S_w53 ?_; (case F_w53 => k_asm); (case N_w53 => k_asm); (case hs_w53 => ((repeat' (first | (with_reducible exact mem_same) | (with_reducible refine' mem_step ?_))); done)); (case O_w53 => first | (with_reducible assumption) | (refine' off3_addr ?oa_w53 ?ob_w53; (case oa_w53 => with_reducible assumption); (case ob_w53 => exact rfl))); (case K_w53 => k_mem); (case h1_w53 => k_ne); (case h2_w53 => k_ne); (case h3_w53 => k_ne); (case S_w53 => lcg_src)))
  k_with "binaryOp Pow int int" => (k_here; (with_reducible show wpAny _ _ (binaryOp _ (Value.int _ _) (Value.int _ _)) _ _ _); k_dflt (refine' pow2_rule ?k1_w98 ?_; (case k1_w98 => assumption)); (try dsimp only))
  k_with "call ref" => (k_here; (with_reducible show wpAny _ _ (call (Value.ref 109) _) _ _ _); k_dflt (refine' power_use ?k1_w99 ?k2_w99 ?k3_w99 ?k4_w99 ?k5_w99 ?kK_w99 ?kd_w99 ?ku_w99 ?g_w99 ?hx_w99 ?i1_w99 ?i2_w99 ?hp_w99 ?hs_w99 ?_; (case k1_w99 => k_asm); (case k2_w99 => k_asm); (case k3_w99 => k_asm); (case k4_w99 => k_asm); (case k5_w99 => k_asm); (case kK_w99 => first | exact rfl | assumption); (case kd_w99 => ktr_room); (case ku_w99 => ktr_units); (case g_w99 => assumption); (case hx_w99 => k_mem); (case i1_w99 => exact rfl); (case i2_w99 => exact rfl); (case hp_w99 => with_reducible assumption); (case hs_w99 => omega); k_whole); intro D'_w99 u1'_w99 u2'_w99 c'_w99 h'_w99 tk'_w99 F'_w99 N'_w99 l1'_w99 sz'_w99; (try dsimp only); (try k_fold))
  k_with "subscriptTail" => (k_here; (with_reducible show wpAny _ _ (subscriptTail _ _ (Value.ref _) (Value.int _ _)) _ _ _); k_dflt (refine' item_led ?N_w100 ?m_w100 ?a_w100 ?b_w100 ?x_w100 ?_; (case N_w100 => k_asm); (case m_w100 => k_mem); (case a_w100 => first | decide | (with_reducible assumption)); (case b_w100 => first | decide | (with_reducible assumption)); (case x_w100 => first | exact rfl | (with_reducible assumption)); k_whole))
  k_with "subscriptTail Name" => (k_here; (with_reducible show wpAny _ _ (subscriptTail _ _ (Value.ref _) (Value.int _ _)) _ _ _); k_dflt (refine' item_led ?N_w101 ?m_w101 ?a_w101 ?b_w101 ?x_w101 ?_; (case N_w101 => k_asm); (case m_w101 => k_mem); (case a_w101 => first | decide | (with_reducible assumption)); (case b_w101 => first | decide | (with_reducible assumption)); (case x_w101 => first | exact rfl | (with_reducible assumption)); k_whole))
  k_with "subscriptTail Name Constant ref int" => (k_here; (with_reducible show wpAny _ _ (subscriptTail _ _ (Value.ref _) (Value.int _ _)) _ _ _); k_dflt (refine' item_led ?N_w102 ?m_w102 ?a_w102 ?b_w102 ?x_w102 ?_; (case N_w102 => k_asm); (case m_w102 => k_mem); (case a_w102 => first | decide | (with_reducible assumption)); (case b_w102 => first | decide | (with_reducible assumption)); (case x_w102 => first | exact rfl | (with_reducible assumption)); k_whole))
  k_with "subscriptTail Name Name ref int" => (k_here; (with_reducible show wpAny _ _ (subscriptTail _ _ (Value.ref _) (Value.int _ _)) _ _ _); k_dflt (refine' item_led ?N_w103 ?m_w103 ?a_w103 ?b_w103 ?x_w103 ?_; (case N_w103 => k_asm); (case m_w103 => k_mem); (case a_w103 => first | decide | (with_reducible assumption)); (case b_w103 => first | decide | (with_reducible assumption)); (case x_w103 => first | exact rfl | (with_reducible assumption)); k_whole))
  k_with "subscriptTail Subscript Name Constant Name ref int" => (k_here; (with_reducible show wpAny _ _ (subscriptTail _ _ (Value.ref _) (Value.int _ _)) _ _ _); k_dflt (refine' item_led ?N_w104 ?m_w104 ?a_w104 ?b_w104 ?x_w104 ?_; (case N_w104 => k_asm); (case m_w104 => k_mem); (case a_w104 => first | decide | (with_reducible assumption)); (case b_w104 => first | decide | (with_reducible assumption)); (case x_w104 => first | exact rfl | (with_reducible assumption)); k_whole))
  k_with "subscriptTail Subscript Name Constant Constant ref int" => (k_here; (with_reducible show wpAny _ _ (subscriptTail _ _ (Value.ref _) (Value.int _ _)) _ _ _); k_dflt (refine' item_led ?N_w105 ?m_w105 ?a_w105 ?b_w105 ?x_w105 ?_; (case N_w105 => k_asm); (case m_w105 => k_mem); (case a_w105 => first | decide | (with_reducible assumption)); (case b_w105 => first | decide | (with_reducible assumption)); (case x_w105 => first | exact rfl | (with_reducible assumption)); k_whole))
  k_with "subscriptTail Subscript Name Name Name ref int" => (k_here; (with_reducible show wpAny _ _ (subscriptTail _ _ (Value.ref _) (Value.int _ _)) _ _ _); k_dflt (refine' item_led ?N_w106 ?m_w106 ?a_w106 ?b_w106 ?x_w106 ?_; (case N_w106 => k_asm); (case m_w106 => k_mem); (case a_w106 => first | decide | (with_reducible assumption)); (case b_w106 => first | decide | (with_reducible assumption)); (case x_w106 => first | exact rfl | (with_reducible assumption)); k_whole))
  k_with "subscriptTail Subscript Name Name Constant ref int" => (k_here; (with_reducible show wpAny _ _ (subscriptTail _ _ (Value.ref _) (Value.int _ _)) _ _ _); k_dflt (refine' item_led ?N_w107 ?m_w107 ?a_w107 ?b_w107 ?x_w107 ?_; (case N_w107 => k_asm); (case m_w107 => k_mem); (case a_w107 => first | decide | (with_reducible assumption)); (case b_w107 => first | decide | (with_reducible assumption)); (case x_w107 => first | exact rfl | (with_reducible assumption)); k_whole))
  k_with "getItem ref int" => (k_here; (with_reducible show wpAny _ _ (getItem (Value.ref _) (Value.int _ _)) _ _ _); k_dflt (refine' getItem_led ?N_w108 ?m_w108 ?a_w108 ?b_w108 ?x_w108 ?_; (case N_w108 => k_asm); (case m_w108 => k_mem); (case a_w108 => first | decide | (with_reducible assumption)); (case b_w108 => first | decide | (with_reducible assumption)); (case x_w108 => first | exact rfl | (with_reducible assumption)); k_whole))
  k_with "subscriptTail Subscript Name Constant Constant ref int" => (k_here; (with_reducible show wpAny _ _ (subscriptTail _ _ (Value.ref _) (Value.int 0 _)) _ _ _); k_dflt (refine' item_tup0 ?N_w109 ?m_w109 ?_; (case N_w109 => k_asm); (case m_w109 => k_mem); k_whole))
  k_with "subscriptTail Subscript Name Name Constant ref int" => (k_here; (with_reducible show wpAny _ _ (subscriptTail _ _ (Value.ref _) (Value.int 0 _)) _ _ _); k_dflt (refine' item_tup0 ?N_w110 ?m_w110 ?_; (case N_w110 => k_asm); (case m_w110 => k_mem); k_whole))
  k_with "subscriptTail Call Name cons nil Constant ref int" => (k_here; (with_reducible show wpAny _ _ (subscriptTail _ _ (Value.ref _) (Value.int 0 _)) _ _ _); k_dflt (refine' item_tup0 ?N_w111 ?m_w111 ?_; (case N_w111 => k_asm); (case m_w111 => k_mem); k_whole))
  k_with "subscriptTail Subscript Name Constant Constant ref int" => (k_here; (with_reducible show wpAny _ _ (subscriptTail _ _ (Value.ref _) (Value.int 1 _)) _ _ _); k_dflt (refine' item_tup1 ?N_w112 ?m_w112 ?_; (case N_w112 => k_asm); (case m_w112 => k_mem); k_whole))
  k_with "subscriptTail Subscript Name Name Constant ref int" => (k_here; (with_reducible show wpAny _ _ (subscriptTail _ _ (Value.ref _) (Value.int 1 _)) _ _ _); k_dflt (refine' item_tup1 ?N_w113 ?m_w113 ?_; (case N_w113 => k_asm); (case m_w113 => k_mem); k_whole))
  k_with "subscriptTail Call Name cons nil Constant ref int" => (k_here; (with_reducible show wpAny _ _ (subscriptTail _ _ (Value.ref _) (Value.int 1 _)) _ _ _); k_dflt (refine' item_tup1 ?N_w114 ?m_w114 ?_; (case N_w114 => k_asm); (case m_w114 => k_mem); k_whole))
  k_with "subscriptTail Name Constant ref int" => (k_here; (with_reducible show wpAny _ _ (subscriptTail _ _ (Value.ref _) (Value.int 0 _)) _ _ _); k_dflt (refine' item_tup0 ?N_w115 ?m_w115 ?_; (case N_w115 => k_asm); (case m_w115 => ((refine' mem_sub ?oa_w115 ?ob_w115; (case ob_w115 => with_reducible assumption); (case oa_w115 => kcj_all)))); k_whole))
  k_with "subscriptTail Name Constant ref int" => (k_here; (with_reducible show wpAny _ _ (subscriptTail _ _ (Value.ref _) (Value.int 1 _)) _ _ _); k_dflt (refine' item_tup1 ?N_w116 ?m_w116 ?_; (case N_w116 => k_asm); (case m_w116 => ((refine' mem_sub ?oa_w116 ?ob_w116; (case ob_w116 => with_reducible assumption); (case oa_w116 => kcj_all)))); k_whole))
  k_with "compareOp NotEq int int" => (k_here; (with_reducible show wpAny _ _ (compareOp CmpOp.NotEq (Value.int _ _) (Value.int _ _)) _ _ _); k_dflt (refine' neK_int ?e_w117 ?_; (case e_w117 => with_reducible assumption); k_whole))
  k_with "exec For Name Call cons nil" => (k_here; k_dflt (refine For_C ?_))
  k_with "pyIter ref" => ((with_reducible show wpAny _ _ (pyIter (Value.ref _)) (LoopC _ _ _ _ _ _ _ _ _) _ _); (refine Stop.out ?_))
  k_with "UnrEnd" => (refine Stop.out ?_)
  k_with "binaryOp FloorDiv int int" => ((with_reducible show wpAny _ _ (binaryOp _ (Value.int _ _) (Value.int _ _)) _ _ _); with_reducible refine fdiv_rule (by assumption) (by assumption) ?_; (try dsimp only))
  k_with "call ref" => (k_here; (with_reducible show wpAny _ _ (call (Value.ref 123) _) _ _ _); k_dflt (refine' rounded_use ?k1_w118 ?k2_w118 ?k3_w118 ?k4_w118 ?k5_w118 ?kK_w118 ?kd_w118 ?ku_w118 ?hx_w118 ?i1_w118 ?i2_w118 ?hp_w118 ?hs_w118 ?_; (case k1_w118 => k_asm); (case k2_w118 => k_asm); (case k3_w118 => k_asm); (case k4_w118 => k_asm); (case k5_w118 => k_asm); (case kK_w118 => first | exact rfl | assumption); (case kd_w118 => ktr_room); (case ku_w118 => ktr_units); (case hx_w118 => k_mem); (case i1_w118 => exact rfl); (case i2_w118 => exact rfl); (case hp_w118 => with_reducible assumption); (case hs_w118 => omega); k_whole); intro u'_w118 h'_w118 tk'_w118 F'_w118 N'_w118; (try dsimp only); (try k_fold))
  k_with "call ref" => (k_here; (with_reducible show wpAny _ _ (call (Value.ref 81) _) _ _ _); k_dflt (refine' diff_use ?k1_w119 ?k2_w119 ?k3_w119 ?k4_w119 ?k5_w119 ?kK_w119 ?kd_w119 ?ku_w119 ?g_w119 ?hx_w119 ?hy_w119 ?i1_w119 ?i2_w119 ?i3_w119 ?i4_w119 ?hp_w119 ?hq_w119 ?hs_w119 ?_; (case k1_w119 => k_asm); (case k2_w119 => k_asm); (case k3_w119 => k_asm); (case k4_w119 => k_asm); (case k5_w119 => k_asm); (case kK_w119 => first | exact rfl | assumption); (case kd_w119 => ktr_room); (case ku_w119 => ktr_units); (case g_w119 => assumption); (case hx_w119 => k_mem); (case hy_w119 => k_mem); (case i1_w119 => exact rfl); (case i2_w119 => exact rfl); (case i3_w119 => exact int_num); (case i4_w119 => exact int_den); (case hp_w119 => with_reducible assumption); (case hq_w119 => with_reducible assumption); (case hs_w119 => omega); k_whole); intro D'_w119 u1'_w119 u2'_w119 c'_w119 h'_w119 tk'_w119 F'_w119 N'_w119 l1'_w119 sz'_w119; (try dsimp only); (try k_fold))
  k_with "call ref" => (k_here; (with_reducible show wpAny _ _ (call (Value.ref 116) _) _ _ _); k_dflt (refine' order_use ?k1_w120 ?k2_w120 ?k3_w120 ?k4_w120 ?k5_w120 ?kK_w120 ?kd_w120 ?ku_w120 ?hx_w120 ?hy_w120 ?i1_w120 ?i2_w120 ?i3_w120 ?i4_w120 ?hp_w120 ?hq_w120 ?hs_w120 ?_; (case k1_w120 => k_asm); (case k2_w120 => k_asm); (case k3_w120 => k_asm); (case k4_w120 => k_asm); (case k5_w120 => k_asm); (case kK_w120 => first | exact rfl | assumption); (case kd_w120 => ktr_room); (case ku_w120 => ktr_units); (case hx_w120 => k_mem); (case hy_w120 => k_mem); (case i1_w120 => exact rfl); (case i2_w120 => exact rfl); (case i3_w120 => first | exact half_num | exact mhalf_num); (case i4_w120 => first | exact half_den | exact mhalf_den); (case hp_w120 => with_reducible assumption); (case hq_w120 => first | exact sz_half | exact sz_mhalf); (case hs_w120 => omega); k_whole); intro u'_w120 h'_w120 tk'_w120 F'_w120 N'_w120; (try dsimp only); (try k_fold))
  k_with "call ref" => (k_here; (with_reducible show wpAny _ _ (call (Value.ref 148) _) _ _ _); k_dflt (refine' bpR2_use ?k1_g10 ?k2_g10 ?k3_g10 ?k4_g10 ?k5_g10 ?kK_g10 ?kd_g10 ?ku_g10 ?g_g10 ?hl_g10 ?h0_g10 ?h1_g10 ?hs_g10 ?_; (case k1_g10 => k_asm); (case k2_g10 => k_asm); (case k3_g10 => k_asm); (case k4_g10 => k_asm); (case k5_g10 => k_asm); (case kK_g10 => first | exact rfl | assumption); (case kd_g10 => ktr_room); (case ku_g10 => ktr_units); (case g_g10 => assumption); (case hl_g10 => k_mem); (case h0_g10 => (refine' RowAt.sub ?Mh_g10 ?Ms_g10 (fun _ _ => rfl) (Nat.le_refl _); (case Mh_g10 => with_reducible assumption); (case Ms_g10 => kcj_all))); (case h1_g10 => (refine' RowAt.sub ?Mi_g10 ?Mt_g10 (fun _ _ => rfl) (Nat.le_refl _); (case Mi_g10 => with_reducible assumption); (case Mt_g10 => kcj_all))); (case hs_g10 => omega); k_whole); intro D'_g10 u1'_g10 u2'_g10 c'_g10 h'_g10 tk'_g10 F'_g10 N'_g10 l1'_g10 sz'_g10; (try dsimp only); (try k_fold))
  k_with "call ref" => (k_here; (with_reducible show wpAny _ _ (call (Value.ref 148) _) _ _ _); k_dflt (refine' bpM2_use ?k1_g11 ?k2_g11 ?k3_g11 ?k4_g11 ?k5_g11 ?kK_g11 ?kd_g11 ?ku_g11 ?g_g11 ?M_g11 ?hs_g11 ?_; (case k1_g11 => k_asm); (case k2_g11 => k_asm); (case k3_g11 => k_asm); (case k4_g11 => k_asm); (case k5_g11 => k_asm); (case kK_g11 => first | exact rfl | assumption); (case kd_g11 => ktr_room); (case ku_g11 => ktr_units); (case g_g11 => assumption); (case M_g11 => (refine' MatAt.sub ?Mh_g11 ?Ms_g11; (case Mh_g11 => with_reducible assumption); (case Ms_g11 => kcj_all))); (case hs_g11 => omega); k_whole); intro D'_g11 u1'_g11 u2'_g11 c'_g11 h'_g11 tk'_g11 F'_g11 N'_g11 l1'_g11 sz'_g11; (try dsimp only); (try k_fold))
  k_with "call ref" => (k_here; (with_reducible show wpAny _ _ (call (Value.ref 148) _) _ _ _); k_dflt (refine' bpM3_use ?k1_g12 ?k2_g12 ?k3_g12 ?k4_g12 ?k5_g12 ?kK_g12 ?kd_g12 ?ku_g12 ?g_g12 ?M_g12 ?hs_g12 ?_; (case k1_g12 => k_asm); (case k2_g12 => k_asm); (case k3_g12 => k_asm); (case k4_g12 => k_asm); (case k5_g12 => k_asm); (case kK_g12 => first | exact rfl | assumption); (case kd_g12 => ktr_room); (case ku_g12 => ktr_units); (case g_g12 => assumption); (case M_g12 => (refine' MatAt.sub ?Mh_g12 ?Ms_g12; (case Mh_g12 => with_reducible assumption); (case Ms_g12 => kcj_all))); (case hs_g12 => omega); k_whole); intro D'_g12 u1'_g12 u2'_g12 c'_g12 h'_g12 tk'_g12 F'_g12 N'_g12 l1'_g12 sz'_g12; (try dsimp only); (try k_fold))
  k_with "CompSrc" => ((with_reducible show LCg.CompSrc _ _ _ _ _ _ _ (PySem.Expr.BinOp _ PySem.Operator.Add _ _) _ _ _ _ _ _); (refine Stop.out ?_))
  k_with "CompSrc" => ((with_reducible show LCg.CompSrc _ _ _ _ _ _ _ (PySem.Expr.ListComp _ _ _ _) _ _ _ _ _ _); (refine Stop.out ?_))
  k_with "CompSrc" => ((with_reducible show LCg.CompSrc _ _ _ _ _ _ _ (PySem.Expr.Call (PySem.Expr.Name (PySem.Str.ofString "ratio_product") _) _ _ _) _ _ _ _ _ _); (refine Stop.out ?_))
  k_with "binaryOp Add ref ref" => (k_here; (with_reducible show wpAny _ _ (binaryOp _ (Value.ref _) (Value.ref _)) _ _ _); k_dflt (refine' add_led ?F_g5 ?N_g5 ?m_g5 ?n_g5 ?z_g5 ?_; (case F_g5 => k_asm); (case N_g5 => k_asm); (case m_g5 => k_mem); (case n_g5 => k_mem); (case z_g5 => (simp only [List.length_take, List.length_drop, List.length_append, List.length_cons, List.length_nil]; omega))); intro D_g5 h_g5 F_g5 N_g5 l_g5; (try k_sweep))
  k_with "k_mem" => ((repeat' (first | (with_reducible exact mq0) | ktr_member | (with_reducible exact mq1) | (with_reducible exact mq2) | (with_reducible exact mq3) | (with_reducible exact mq4) | (with_reducible exact mq5) | (with_reducible exact mq6) | (with_reducible exact mq7) | (with_reducible exact mq8) | (with_reducible exact mq9) | (with_reducible refine List.mem_append_right _ ?_) | (with_reducible refine mqt ?_) | (refine' mem_sub ?oa_w87 ?ob_w87; (case oa_w87 => with_reducible assumption); (case ob_w87 => with_reducible assumption)))); done)
  k_with "k_all" => ((repeat' (first | (refine' ne_id ?oa_w12; (case oa_w12 => with_reducible assumption)) | (with_reducible refine' ne_cons ?_ ?_) | (with_reducible refine' List.forall_mem_cons.mpr ⟨?_, ?_⟩) | exact List.forall_mem_nil _ | (refine' ne_id ?oa_w12; (case oa_w12 => with_reducible assumption)) | (refine' tail_lt ?oa_w12 ?ob_w12; (case oa_w12 => with_reducible assumption); (case ob_w12 => kcj_all)) | (refine' tail_off1 ?oa_w12 ?ob_w12; (case oa_w12 => with_reducible assumption); (case ob_w12 => kcj_all)) | (refine' tail_off3I ?oa_w12 ?ob_w12; (case oa_w12 => with_reducible assumption); (case ob_w12 => kcj_all)) | (refine' tail_off3C ?oa_w12 ?ob_w12; (case oa_w12 => with_reducible assumption); (case ob_w12 => kcj_all)) | (refine' tail_off3D ?oa_w12 ?ob_w12; (case oa_w12 => with_reducible assumption); (case ob_w12 => kcj_all)) | (refine' ne_of_allLt_le ?oa_w12 ?ob_w12; (case oa_w12 => with_reducible assumption); (case ob_w12 => omega)) | k_ne)); done)
  k_with "k_upd" => ((repeat' (first | (with_reducible refine' Del.head ?_) | (with_reducible refine' Del.tail ?_ ?_) | (with_reducible refine' Upd.head ?_) | (with_reducible refine' Upd.tail ?_ ?_) | (with_reducible refine' UpdF.head ?_) | (with_reducible refine' UpdF.tail ?_ ?_) | (with_reducible refine' Del.appA (by with_reducible assumption) ?_) | (with_reducible refine' Upd.app (by with_reducible assumption) ?_) | (with_reducible refine' Del.app ?_ ?_) | k_all | k_ne)); done)
  k_with "kcj_all" => ((repeat' (first | (with_reducible assumption) | (with_reducible exact mem_same) | exact List.forall_mem_nil _ | (with_reducible refine' sub_cons ?_ ?_) | (with_reducible refine' List.forall_mem_cons.mpr ⟨?_, ?_⟩) | (with_reducible exact mem_appl) | (with_reducible refine' mem_step ?_) | (with_reducible refine' mem_apps ?_ ?_) | (with_reducible refine' mem_app ?_) | k_mem)); done)
  k_with "call ref" => first | ((with_reducible show wpAny _ _ (call (Value.ref 136) _) _ _ _); (refine Stop.out ?_)) | ((with_reducible show wpAny _ _ (call (Value.ref 160) _) _ _ _); (refine Stop.out ?_)) | ((with_reducible show wpAny _ _ (call (Value.ref 165) _) _ _ _); (refine Stop.out ?_)) | ((with_reducible show wpAny _ _ (call (Value.ref 170) _) _ _ _); (refine Stop.out ?_))
  k_with "execs cons For cons" => (refine Stop.out ?_)
  k_with "execs cons If cons" => (refine Stop.out ?_)
  k_with "execs cons Assign cons" => (refine Stop.out ?_)
  trivial
theorem law_walk : Hd.hd := (by
  k_go0
  (all_goals try k_fold)
  rename PySem.Shared => s1
  have Gt := Mine.great_of ‹LooseAre _ _ _› (by decide +kernel)
  refine Stop.mk ?_
  (try k_fold)
  refine' execs_cutL (J := JB 0 (fun _ _ _ => True)) ?F ?h1 ?h2
  (case F => k_asm)
  case h1 =>
    (try k_fold)
    k_steps
    refine Stop.mk (MidL.intro (by k_asm) (by k_asm) ?_)
    (refine' JB.intro ?D1 ?D2 ?D3 ?D4 ?D5 ?D6 ?D7 ?D8 ?D9 ?d1 ?d2 ?d3 ?d4 ?d5 ?d6 ?d7 ?hv1 ?hv ?hl ?hk0 ?hk1 ?z; (case D1 => k_upd); (case D2 => k_upd); (case D3 => k_upd); (case D4 => k_upd); (case D5 => k_upd); (case D6 => k_upd); (case D7 => k_upd); (case D8 => k_upd); (case D9 => k_upd); (case d1 => with_reducible assumption); (case d2 => with_reducible assumption); (case d3 => with_reducible assumption); (case d4 => with_reducible assumption); (case d5 => with_reducible assumption); (case d6 => with_reducible assumption); (case d7 => with_reducible assumption); (case hv1 => exact rfl); (case hv => with_reducible assumption); (case hl => first | assumption | omega); (case hk0 => omega); (case hk1 => omega))
    case z => trivial
  case h2 =>
    rintro h2 tk2 m2 nw2 F2 N2 ⟨P, S, vs, ns, k, t, c, c2, o1, o2, o3, o4, o5, o6, o7, v1, v2, v3, v4, v5, v6, v7, rest, d1, d2, d3, d4, d5, d6, d7, rfl, rfl, hvs, hls, hk0, hk1, nSP, nc1, nc2, nc3, nc4, nc5, nc6, nc7, nP1, nP2, nP3, nP4, nP5, nP6, nP7, nS1, nS2, nS3, nS4, nS5, nS6, nS7, r1, r2, r3, r4, r5, r6, r7, rS, rP, z⟩
    refine Stop.mk ?_
    (try k_fold)
    refine' execs_cutL (J := JB 60 (fun mm v2 rest => ∃ D1 D2 D3 M1 M2 M3, mm (PySem.Str.ofString "one") = some (.ref D1) ∧ mm (PySem.Str.ofString "other") = some (.ref D2) ∧ v2 = some (.ref D3) ∧ MatAt 2 2 rest D1 M1 2 ∧ MatAt 2 2 rest D2 M2 2 ∧ MatAt 3 3 rest D3 M3 2 ∧ (∀ i j, i < 2 → j < 2 → Ent (M1 i j)) ∧ (∀ i j, i < 2 → j < 2 → Ent (M2 i j)) ∧ (∀ i j, i < 3 → j < 3 → Ent (M3 i j)))) ?F ?h1 ?h2
    (case F => k_asm)
    case h1 =>
      (try k_fold)
      k_steps
      refine Stop.mk ?_
      refine' matrix_law (n := 2) (S := S) (pre := [(S, listObj vs c2), (s1.heap.objs.size + 1 + 1 + 1 + 1 + 1 + 1 + 1, o7), (s1.heap.objs.size + 1 + 1 + 1 + 1 + 1 + 1, o6), (s1.heap.objs.size + 1 + 1 + 1 + 1 + 1, o5), (s1.heap.objs.size + 1 + 1 + 1 + 1, o4), (s1.heap.objs.size + 1 + 1 + 1, o3), (s1.heap.objs.size + 1 + 1, o2), (s1.heap.objs.size + 1, o1)]) (rest := rest) ?k1 ?k2 ?k3 ?k4 ?k5 ?kK ?kd ?ku ?g ?hS ?hv ?hl ?hk0 ?hk1 ?hpre ?hoff ?ret
      (case k1 => k_asm)
      (case k2 => k_asm)
      (case k3 => k_asm)
      (case k4 => exact N2)
      (case k5 => k_asm)
      (case kK => first | exact rfl | assumption)
      (case kd => ktr_room)
      (case ku => ktr_units)
      (case g => assumption)
      (case hS => exact .head _)
      (case hv => with_reducible assumption)
      (case hl => assumption)
      (case hk0 => omega)
      (case hk1 => omega)
      (case hpre => exact jb_pre nSP nc1 nc2 nc3 nc4 nc5 nc6 nc7)
      (case hoff => exact jb_off rS rP r1 r2 r3 r4 r5 r6 r7)
      case ret =>
      intro Dm1 k1' t1' rest1 M1 h' tk' F' Nm1 hk1a hk1b off1 sub1 mat1 ent1
      simp only [List.cons_append, List.nil_append] at Nm1
      k_steps
      refine Stop.mk ?_
      refine' matrix_law (n := 2) (S := S) (pre := [(S, listObj vs c2), (s1.heap.objs.size + 1 + 1 + 1 + 1 + 1 + 1 + 1, o7), (s1.heap.objs.size + 1 + 1 + 1 + 1 + 1 + 1, o6), (s1.heap.objs.size + 1 + 1 + 1 + 1 + 1, o5), (s1.heap.objs.size + 1 + 1 + 1 + 1, o4), (s1.heap.objs.size + 1 + 1 + 1, o3), (s1.heap.objs.size + 1 + 1, o2), (s1.heap.objs.size + 1, o1)]) (rest := rest1) ?k1 ?k2 ?k3 ?k4 ?k5 ?kK ?kd ?ku ?g ?hS ?hv ?hl ?hk0 ?hk1 ?hpre ?hoff ?ret
      (case k1 => k_asm)
      (case k2 => k_asm)
      (case k3 => k_asm)
      (case k4 => exact Nm1)
      (case k5 => k_asm)
      (case kK => first | exact rfl | assumption)
      (case kd => ktr_room)
      (case ku => ktr_units)
      (case g => assumption)
      (case hS => exact .head _)
      (case hv => with_reducible assumption)
      (case hl => assumption)
      (case hk0 => omega)
      (case hk1 => omega)
      (case hpre => exact jb_pre nSP nc1 nc2 nc3 nc4 nc5 nc6 nc7)
      (case hoff => exact off1)
      case ret =>
      intro Dm2 k2' t2' rest2 M2 h' tk' F' Nm2 hk2a hk2b off2 sub2 mat2 ent2
      simp only [List.cons_append, List.nil_append] at Nm2
      k_steps
      refine Stop.mk ?_
      refine' matrix_law (n := 3) (S := S) (pre := [(S, listObj vs c2), (s1.heap.objs.size + 1 + 1 + 1 + 1 + 1 + 1 + 1, o7), (s1.heap.objs.size + 1 + 1 + 1 + 1 + 1 + 1, o6), (s1.heap.objs.size + 1 + 1 + 1 + 1 + 1, o5), (s1.heap.objs.size + 1 + 1 + 1 + 1, o4), (s1.heap.objs.size + 1 + 1 + 1, o3), (s1.heap.objs.size + 1 + 1, o2), (s1.heap.objs.size + 1, o1)]) (rest := rest2) ?k1 ?k2 ?k3 ?k4 ?k5 ?kK ?kd ?ku ?g ?hS ?hv ?hl ?hk0 ?hk1 ?hpre ?hoff ?ret
      (case k1 => k_asm)
      (case k2 => k_asm)
      (case k3 => k_asm)
      (case k4 => exact Nm2)
      (case k5 => k_asm)
      (case kK => first | exact rfl | assumption)
      (case kd => ktr_room)
      (case ku => ktr_units)
      (case g => assumption)
      (case hS => exact .head _)
      (case hv => with_reducible assumption)
      (case hl => assumption)
      (case hk0 => omega)
      (case hk1 => omega)
      (case hpre => exact jb_pre nSP nc1 nc2 nc3 nc4 nc5 nc6 nc7)
      (case hoff => exact off2)
      case ret =>
      intro Dm3 k3' t3' rest3 M3 h' tk' F' Nm3 hk3a hk3b off3 sub3 mat3 ent3
      simp only [List.cons_append, List.nil_append] at Nm3
      obtain ⟨x0, x00, x1, x2, x3, x4, x5, x6, x7⟩ := jb_back off3
      k_steps
      refine Stop.mk (MidL.intro (by k_asm) (by k_asm) ?_)
      (refine' JB.intro (P := P) (S := S) ?D1 ?D2 ?D3 ?D4 ?D5 ?D6 ?D7 ?D8 ?D9 ?d1 ?d2 ?d3 ?d4 ?d5 ?d6 ?d7 ?hv1 ?hv ?hl ?hk0 ?hk1 ?z; (case D1 => k_upd); (case D2 => k_upd); (case D3 => k_upd); (case D4 => k_upd); (case D5 => k_upd); (case D6 => k_upd); (case D7 => k_upd); (case D8 => k_upd); (case D9 => k_upd); (case d1 => with_reducible assumption); (case d2 => with_reducible assumption); (case d3 => with_reducible assumption); (case d4 => with_reducible assumption); (case d5 => with_reducible assumption); (case d6 => with_reducible assumption); (case d7 => with_reducible assumption); (case hv1 => exact rfl); (case hv => with_reducible assumption); (case hl => first | assumption | omega); (case hk0 => omega); (case hk1 => omega))
      case z => exact ⟨Dm1, Dm2, Dm3, M1, M2, M3, rfl, rfl, rfl, ((mat1.sub sub2).sub sub3).sub (by kcj_all), (mat2.sub sub3).sub (by kcj_all), mat3.sub (by kcj_all), ent1, ent2, ent3⟩
    case h2 =>
      try clear z
      try clear rP
      try clear rS
      try clear r7
      try clear r6
      try clear r5
      try clear r4
      try clear r3
      try clear r2
      try clear r1
      try clear nS7
      try clear nS6
      try clear nS5
      try clear nS4
      try clear nS3
      try clear nS2
      try clear nS1
      try clear nP7
      try clear nP6
      try clear nP5
      try clear nP4
      try clear nP3
      try clear nP2
      try clear nP1
      try clear nc7
      try clear nc6
      try clear nc5
      try clear nc4
      try clear nc3
      try clear nc2
      try clear nc1
      try clear nSP
      try clear hk1
      try clear hk0
      try clear hls
      try clear hvs
      try clear d7
      try clear d6
      try clear d5
      try clear d4
      try clear d3
      try clear d2
      try clear d1
      try clear rest
      try clear v7
      try clear v6
      try clear v5
      try clear v4
      try clear v3
      try clear v2
      try clear v1
      try clear o7
      try clear o6
      try clear o5
      try clear o4
      try clear o3
      try clear o2
      try clear o1
      try clear c2
      try clear c
      try clear t
      try clear k
      try clear ns
      try clear vs
      try clear S
      try clear P
      try clear N2
      try clear F2
      try clear m2
      rintro h3 tk3 m3 nw3 F3 N3 ⟨P, S, vs, ns, k, t, c, c2, o1, o2, o3, o4, o5, o6, o7, v1, v2, v3, v4, v5, v6, v7, rest, d1, d2, d3, d4, d5, d6, d7, rfl, rfl, hvs, hls, hk0, hk1, nSP, nc1, nc2, nc3, nc4, nc5, nc6, nc7, nP1, nP2, nP3, nP4, nP5, nP6, nP7, nS1, nS2, nS3, nS4, nS5, nS6, nS7, r1, r2, r3, r4, r5, r6, r7, rS, rP, D1, D2, D3, p, q, r, hone, hother, rfl, mat1, mat2, mat3, ent1, ent2, ent3⟩
      refine Stop.mk ?_
      (try k_fold)
      refine' execs_cutJ (Z := fun mm v1 v2 v3 v4 v5 v6 v7 rest => ∃ D1 D2 D3 G p q r b, mm (PySem.Str.ofString "one") = some (.ref D1) ∧ mm (PySem.Str.ofString "other") = some (.ref D2) ∧ v2 = some (.ref D3) ∧ v3 = some (.ref G) ∧ Core D1 D2 D3 G p q r b rest ∧ (∀ i j, i < 2 → j < 2 → Ent (p i j)) ∧ (∀ i j, i < 2 → j < 2 → Ent (q i j)) ∧ (∀ i j, i < 3 → j < 3 → Ent (r i j)) ∧ (∀ j, j < 3 → (b j).den = 1)) ?F ?h1 ?h2
      (case F => k_asm)
      case h1 =>
        (try k_fold)
        k_steps
        refine Stop.mk (MidL.intro (by k_asm) (by k_asm) ?_)
        (refine' JC.intro ?D1 ?D2 ?D3 ?D4 ?D5 ?D6 ?D7 ?d1 ?d2 ?d3 ?d4 ?d5 ?d6 ?d7 ?z; (case D1 => k_upd); (case D2 => k_upd); (case D3 => k_upd); (case D4 => k_upd); (case D5 => k_upd); (case D6 => k_upd); (case D7 => k_upd); (case d1 => with_reducible assumption); (case d2 => with_reducible assumption); (case d3 => with_reducible assumption); (case d4 => with_reducible assumption); (case d5 => with_reducible assumption); (case d6 => with_reducible assumption); (case d7 => with_reducible assumption); skip)
        case z => exact ⟨D1, D2, D3, _, p, q, r, _root_.Mine.r3 _ _ _, hone, hother, rfl, rfl, ⟨mat1.sub (by kcj_all), mat2.sub (by kcj_all), mat3.sub (by kcj_all), RowAt.of3 (.head _) (by k_mem) (Ent.sz (by assumption)) (Nat.le_refl _) rfl (by k_mem) (Ent.sz (by assumption)) (Nat.le_refl _) rfl (by k_mem) (Ent.sz (by assumption)) (Nat.le_refl _) rfl⟩, ent1, ent2, ent3, dens _ _ _⟩
      case h2 =>
        try clear ent3
        try clear ent2
        try clear ent1
        try clear mat3
        try clear mat2
        try clear mat1
        try clear hother
        try clear hone
        try clear r
        try clear q
        try clear p
        try clear D3
        try clear D2
        try clear D1
        try clear rP
        try clear rS
        try clear r7
        try clear r6
        try clear r5
        try clear r4
        try clear r3
        try clear r2
        try clear r1
        try clear nS7
        try clear nS6
        try clear nS5
        try clear nS4
        try clear nS3
        try clear nS2
        try clear nS1
        try clear nP7
        try clear nP6
        try clear nP5
        try clear nP4
        try clear nP3
        try clear nP2
        try clear nP1
        try clear nc7
        try clear nc6
        try clear nc5
        try clear nc4
        try clear nc3
        try clear nc2
        try clear nc1
        try clear nSP
        try clear hk1
        try clear hk0
        try clear hls
        try clear hvs
        try clear d7
        try clear d6
        try clear d5
        try clear d4
        try clear d3
        try clear d2
        try clear d1
        try clear rest
        try clear v7
        try clear v6
        try clear v5
        try clear v4
        try clear v3
        try clear v2
        try clear v1
        try clear o7
        try clear o6
        try clear o5
        try clear o4
        try clear o3
        try clear o2
        try clear o1
        try clear c2
        try clear c
        try clear t
        try clear k
        try clear ns
        try clear vs
        try clear S
        try clear P
        try clear N3
        try clear F3
        try clear m3
        intro h4 tk4 m4 o1 o2 o3 o4 o5 o6 o7 v1 v2 v3 v4 v5 v6 v7 rest F4 N4 d1 d2 d3 d4 d5 d6 d7 r1 r2 r3 r4 r5 r6 r7 hz
        obtain ⟨D1, D2, D3, G, p, q, r, b, hone, hother, e2, e3, ⟨mat1, mat2, mat3, rowg⟩, ent1, ent2, ent3, bden⟩ := hz
        replace d2 := d2.trans (congrArg PySem.Data.cell e2)
        replace d3 := d3.trans (congrArg PySem.Data.cell e3)
        refine Stop.mk ?_
        (try k_fold)
        refine' execs_cutJ (Z := fun mm v1 v2 v3 v4 v5 v6 v7 rest => Base D1 D2 D3 G p q r b mm v2 v3 rest) ?F ?h1 ?h2
        (case F => k_asm)
        case h1 =>
          (try k_fold)
          k_steps
          refine Stop.mk (MidL.intro (by k_asm) (by k_asm) ?_)
          (refine' JC.intro ?D1 ?D2 ?D3 ?D4 ?D5 ?D6 ?D7 ?d1 ?d2 ?d3 ?d4 ?d5 ?d6 ?d7 ?z; (case D1 => k_upd); (case D2 => k_upd); (case D3 => k_upd); (case D4 => k_upd); (case D5 => k_upd); (case D6 => k_upd); (case D7 => k_upd); (case d1 => with_reducible assumption); (case d2 => with_reducible assumption); (case d3 => with_reducible assumption); (case d4 => with_reducible assumption); (case d5 => with_reducible assumption); (case d6 => with_reducible assumption); (case d7 => with_reducible assumption); skip)
          case z => exact ⟨_, _, _, _, _, _, _, _, _, _, _, _, hone, hother, rfl, rfl, mat1.sub (by kcj_all), mat2.sub (by kcj_all), mat3.sub (by kcj_all), rowg.sub (by kcj_all) (fun _ _ => rfl) (Nat.le_refl _), rfl, by k_mem, by with_reducible assumption, rfl, by k_mem, by with_reducible assumption, rfl, by k_mem, by with_reducible assumption⟩
        case h2 =>
          try clear core
          try clear hother
          try clear hone
          try clear r7
          try clear r6
          try clear r5
          try clear r4
          try clear r3
          try clear r2
          try clear r1
          try clear d7
          try clear d6
          try clear d5
          try clear d4
          try clear d3
          try clear d2
          try clear d1
          try clear rest
          try clear v7
          try clear v6
          try clear v5
          try clear v4
          try clear v3
          try clear v2
          try clear v1
          try clear o7
          try clear o6
          try clear o5
          try clear o4
          try clear o3
          try clear o2
          try clear o1
          try clear N4
          try clear F4
          try clear m4
          intro h5 tk5 m5 o1 o2 o3 o4 o5 o6 o7 v1 v2 v3 v4 v5 v6 v7 rest F5 N5 d1 d2 d3 d4 d5 d6 d7 r1 r2 r3 r4 r5 r6 r7 hz
          obtain ⟨la, ls, lu, lk, ra, rs, ru, rk, ba, bs, bu, bk, hone, hother, e2, e3, mat1, mat2, mat3, rowg, hleft, lm, lz, hright, rm, rz, hbelow, bm, bz⟩ := hz
          replace d2 := d2.trans (congrArg PySem.Data.cell e2)
          replace d3 := d3.trans (congrArg PySem.Data.cell e3)
          refine Stop.mk ?_
          (try k_fold)
          refine' execs_cutJ (Z := fun mm v1 v2 v3 v4 v5 v6 v7 rest => Base D1 D2 D3 G p q r b mm v2 v3 rest) ?F ?h1 ?h2
          (case F => k_asm)
          case h1 =>
            (try k_fold)
            obtain ⟨xvs, xc, xl, xrows⟩ := id mat1
            obtain ⟨xr0, xr1, rfl, xw0, xw1⟩ := xrows.open2
            replace xw0 : RowAt 2 rest xr0 (p 0) 2 := xw0
            replace xw1 : RowAt 2 rest xr1 (p 1) 2 := xw1
            k_steps
            refine Stop.mk ?_
            refine' timesM_use ?k1 ?k2 ?k3 ?k4 ?k5 ?kK ?kd ?ku ?g ?M1 ?M2 ?ret
            (case k1 => k_asm)
            (case k2 => k_asm)
            (case k3 => k_asm)
            (case k4 => k_asm)
            (case k5 => k_asm)
            (case kK => first | exact rfl | assumption)
            (case kd => ktr_room)
            (case ku => ktr_units)
            (case g => assumption)
            (case M1 => exact mat1.sub (by kcj_all))
            (case M2 => exact mat2.sub (by kcj_all))
            case ret =>
            intro tD tl2 h' tk' F' Nt tmat apT
            obtain ⟨rest2, eg2, in2, sub2⟩ := grown (tl := tl2) (rest := rest)
            refine' grow_then (rest := rest) Nt ?gg2 ?gk2
            (case gg2 => exact .cons (.cons (.cons (.cons (.cons (.cons (.cons (.here))))))))
            case gk2 =>
            intro Ng2
            replace r1 := grow_off eg2 apT (by k_mem) r1
            replace r2 := grow_off eg2 apT (by k_mem) r2
            replace r3 := grow_off eg2 apT (by k_mem) r3
            replace r4 := grow_off eg2 apT (by k_mem) r4
            replace r5 := grow_off eg2 apT (by k_mem) r5
            replace r6 := grow_off eg2 apT (by k_mem) r6
            replace r7 := grow_off eg2 apT (by k_mem) r7
            rw [← eg2] at Ng2
            clear Nt apT
            replace tmat := tmat.sub in2
            replace xl := sub2 _ xl
            replace xw0 : RowAt 2 rest2 xr0 (p 0) 2 := xw0.sub sub2 (fun _ _ => rfl) (Nat.le_refl _)
            replace xw1 : RowAt 2 rest2 xr1 (p 1) 2 := xw1.sub sub2 (fun _ _ => rfl) (Nat.le_refl _)
            clear in2 eg2
            k_steps
            refine Stop.mk (MidL.intro (by k_asm) (by k_asm) ?_)
            (refine' JC.intro ?D1 ?D2 ?D3 ?D4 ?D5 ?D6 ?D7 ?d1 ?d2 ?d3 ?d4 ?d5 ?d6 ?d7 ?z; (case D1 => k_upd); (case D2 => k_upd); (case D3 => k_upd); (case D4 => k_upd); (case D5 => k_upd); (case D6 => k_upd); (case D7 => k_upd); (case d1 => with_reducible assumption); (case d2 => with_reducible assumption); (case d3 => with_reducible assumption); (case d4 => with_reducible assumption); (case d5 => with_reducible assumption); (case d6 => with_reducible assumption); (case d7 => with_reducible assumption); skip)
            case z => exact Base.sub ⟨la, ls, lu, lk, ra, rs, ru, rk, ba, bs, bu, bk, hone, hother, e2, e3, mat1, mat2, mat3, rowg, hleft, lm, lz, hright, rm, rz, hbelow, bm, bz⟩ (by kcj_all) rfl rfl rfl rfl rfl rfl rfl
          case h2 =>
            try clear bz
            try clear bm
            try clear hbelow
            try clear bk
            try clear bu
            try clear bs
            try clear ba
            try clear rz
            try clear rm
            try clear hright
            try clear rk
            try clear ru
            try clear rs
            try clear ra
            try clear lz
            try clear lm
            try clear hleft
            try clear lk
            try clear lu
            try clear ls
            try clear la
            try clear core
            try clear hother
            try clear hone
            try clear r7
            try clear r6
            try clear r5
            try clear r4
            try clear r3
            try clear r2
            try clear r1
            try clear d7
            try clear d6
            try clear d5
            try clear d4
            try clear d3
            try clear d2
            try clear d1
            try clear rest
            try clear v7
            try clear v6
            try clear v5
            try clear v4
            try clear v3
            try clear v2
            try clear v1
            try clear o7
            try clear o6
            try clear o5
            try clear o4
            try clear o3
            try clear o2
            try clear o1
            try clear N5
            try clear F5
            try clear m5
            intro h6 tk6 m6 o1 o2 o3 o4 o5 o6 o7 v1 v2 v3 v4 v5 v6 v7 rest F6 N6 d1 d2 d3 d4 d5 d6 d7 r1 r2 r3 r4 r5 r6 r7 hz
            obtain ⟨la, ls, lu, lk, ra, rs, ru, rk, ba, bs, bu, bk, hone, hother, e2, e3, mat1, mat2, mat3, rowg, hleft, lm, lz, hright, rm, rz, hbelow, bm, bz⟩ := hz
            replace d2 := d2.trans (congrArg PySem.Data.cell e2)
            replace d3 := d3.trans (congrArg PySem.Data.cell e3)
            refine Stop.mk ?_
            (try k_fold)
            refine' execs_cutJ (Z := fun mm v1 v2 v3 v4 v5 v6 v7 rest => Base D1 D2 D3 G p q r b mm v2 v3 rest ∧ CellRat v4 rest 6) ?F ?h1 ?h2
            (case F => k_asm)
            case h1 =>
              (try k_fold)
              have growg := rowg
              obtain ⟨gc, ga0, gs0, gu0, gk0, ga1, gs1, gu1, gk1, ga2, gs2, gu2, gk2, gh, gm0, gm1, gm2, gz0, gz1, gz2⟩ := rowg.open3
              obtain ⟨hq0, hq1⟩ := sq_bounds gz0.1
              have hqf : Fit (b 0).num := gz0.fitN (by decide)
              k_steps
              refine Stop.mk (MidL.intro (by k_asm) (by k_asm) ?_)
              (refine' JC.intro ?D1 ?D2 ?D3 ?D4 ?D5 ?D6 ?D7 ?d1 ?d2 ?d3 ?d4 ?d5 ?d6 ?d7 ?z; (case D1 => k_upd); (case D2 => k_upd); (case D3 => k_upd); (case D4 => k_upd); (case D5 => k_upd); (case D6 => k_upd); (case D7 => k_upd); (case d1 => with_reducible assumption); (case d2 => with_reducible assumption); (case d3 => with_reducible assumption); (case d4 => with_reducible assumption); (case d5 => with_reducible assumption); (case d6 => with_reducible assumption); (case d7 => with_reducible assumption); skip)
              case z => exact ⟨Base.sub ⟨la, ls, lu, lk, ra, rs, ru, rk, ba, bs, bu, bk, hone, hother, e2, e3, mat1, mat2, mat3, rowg, hleft, lm, lz, hright, rm, rz, hbelow, bm, bz⟩ (by kcj_all) rfl rfl rfl rfl rfl rfl rfl, _, _, _, _, _, rfl, by k_mem, by with_reducible assumption⟩
            case h2 =>
              try clear bz
              try clear bm
              try clear hbelow
              try clear bk
              try clear bu
              try clear bs
              try clear ba
              try clear rz
              try clear rm
              try clear hright
              try clear rk
              try clear ru
              try clear rs
              try clear ra
              try clear lz
              try clear lm
              try clear hleft
              try clear lk
              try clear lu
              try clear ls
              try clear la
              try clear core
              try clear hother
              try clear hone
              try clear r7
              try clear r6
              try clear r5
              try clear r4
              try clear r3
              try clear r2
              try clear r1
              try clear d7
              try clear d6
              try clear d5
              try clear d4
              try clear d3
              try clear d2
              try clear d1
              try clear rest
              try clear v7
              try clear v6
              try clear v5
              try clear v4
              try clear v3
              try clear v2
              try clear v1
              try clear o7
              try clear o6
              try clear o5
              try clear o4
              try clear o3
              try clear o2
              try clear o1
              try clear N6
              try clear F6
              try clear m6
              intro h7 tk7 m7 o1 o2 o3 o4 o5 o6 o7 v1 v2 v3 v4 v5 v6 v7 rest F7 N7 d1 d2 d3 d4 d5 d6 d7 r1 r2 r3 r4 r5 r6 r7 hz
              obtain ⟨⟨la, ls, lu, lk, ra, rs, ru, rk, ba, bs, bu, bk, hone, hother, e2, e3, mat1, mat2, mat3, rowg, hleft, lm, lz, hright, rm, rz, hbelow, bm, bz⟩, ⟨o, oa, os, ou, ok, e4, om, oz⟩⟩ := hz
              replace d2 := d2.trans (congrArg PySem.Data.cell e2)
              replace d3 := d3.trans (congrArg PySem.Data.cell e3)
              replace d4 := d4.trans (congrArg PySem.Data.cell e4)
              refine Stop.mk ?_
              (try k_fold)
              refine' execs_cutJ (Z := fun mm v1 v2 v3 v4 v5 v6 v7 rest => Base D1 D2 D3 G p q r b mm v2 v3 rest) ?F ?h1 ?h2
              (case F => k_asm)
              case h1 =>
                (try k_fold)
                obtain ⟨yvs, yc, yl, yvl, yrows⟩ := id mat2
                k_steps
                refine Stop.mk ?_
                refine comp_list (KRow 2 (fun i j => o * q i j) 8) KRow.mono (by rfl) (by k_asm) (by k_asm) (by k_mem) yvl (by decide) ?stepA ?finA
                case stepA =>
                  intro ia ysa tla hia ita apa va Ia oIa Ca oCa Da ma ha tka Ea hva hCa hxa Fa Na offa nea
                  obtain ⟨ra9, hra, asa, ca, h1a, h2a, h3a⟩ := yrows ia hia
                  obtain rfl : va = .ref ra9 := Option.some.inj (hva.symm.trans hra)
                  k_steps
                  refine Stop.mk ?_
                  refine comp_list (KRat (fun j => o * q ia j) 8) KRat.mono (by rfl) (by k_asm) (by k_asm) (by k_mem) h2a (by decide) ?stepB ?finB
                  case stepB =>
                    intro ib ysb tlb hib itb apb vb Ib oIb Cb oCb Db mB hB tkb Eb hvb hCb hxb Fb Nb offb neb
                    obtain ⟨rb9, sb, ub, kb, g1b, g2b, g3b⟩ := h3a ib hib
                    obtain rfl : vb = .ref rb9 := Option.some.inj (hvb.symm.trans g1b)
                    replace g2b : (rb9, tup2 (q ia ib).num sb (q ia ib).den ub kb) ∈ rest := g2b
                    replace g3b : Sz 2 (q ia ib) := g3b
                    k_steps
                    (iterate 6 (try ((try show (_ : Value → Shared → Prop) _ _); k_unfold; (try dsimp only))))
                    exact ItemEnd.one (by k_asm) (by k_asm) (by assumption) ⟨_, _, _, _, rfl, .head _, by with_reducible assumption⟩
                  case finB =>
                    intro gb ysb tlb itb apb
                    k_steps
                    (iterate 6 (try ((try show (_ : Value → Shared → Prop) _ _); k_unfold; (try dsimp only))))
                    exact ItemEnd.list (by k_asm) (by k_asm) (by assumption) apb ⟨_, rfl, row_of (itb.sub KRat.mono fun p hp => .tail _ (List.mem_append_left _ hp)) (.head _)⟩
                case finA =>
                intro ga ysa tla ita apa
                unfold LCg.FinE
                intro sD h' tk' F' Nt oS
                have apT := away2 (o := LCg.lst ysa) oS apa fun _ h => h
                have tmat : MatAt 2 2 ((sD, LCg.lst ysa) :: tla) sD (fun i j => o * q i j) 8 := ⟨ysa, _, .head _, rows_of (ita.sub KRow.mono fun p hp => .tail _ hp)⟩
                obtain ⟨rest2, eg2, in2, sub2⟩ := grown (tl := (sD, LCg.lst ysa) :: tla) (rest := rest)
                refine' grow_then (tl := (sD, LCg.lst ysa) :: tla) (rest := rest) Nt ?gg2 ?gk2
                (case gg2 => exact .cons (.cons (.cons (.cons (.cons (.cons (.cons (.here))))))))
                case gk2 =>
                intro Ng2
                replace r1 := grow_off eg2 apT (by k_mem) r1
                replace r2 := grow_off eg2 apT (by k_mem) r2
                replace r3 := grow_off eg2 apT (by k_mem) r3
                replace r4 := grow_off eg2 apT (by k_mem) r4
                replace r5 := grow_off eg2 apT (by k_mem) r5
                replace r6 := grow_off eg2 apT (by k_mem) r6
                replace r7 := grow_off eg2 apT (by k_mem) r7
                rw [← eg2] at Ng2
                clear Nt apT oS
                replace tmat := tmat.sub in2
                clear in2 eg2
                k_steps
                refine Stop.mk (MidL.intro (by k_asm) (by k_asm) ?_)
                (refine' JC.intro ?D1 ?D2 ?D3 ?D4 ?D5 ?D6 ?D7 ?d1 ?d2 ?d3 ?d4 ?d5 ?d6 ?d7 ?z; (case D1 => k_upd); (case D2 => k_upd); (case D3 => k_upd); (case D4 => k_upd); (case D5 => k_upd); (case D6 => k_upd); (case D7 => k_upd); (case d1 => with_reducible assumption); (case d2 => with_reducible assumption); (case d3 => with_reducible assumption); (case d4 => with_reducible assumption); (case d5 => with_reducible assumption); (case d6 => with_reducible assumption); (case d7 => with_reducible assumption); skip)
                case z => exact Base.sub ⟨la, ls, lu, lk, ra, rs, ru, rk, ba, bs, bu, bk, hone, hother, e2, e3, mat1, mat2, mat3, rowg, hleft, lm, lz, hright, rm, rz, hbelow, bm, bz⟩ (by kcj_all) rfl rfl rfl rfl rfl rfl rfl
              case h2 =>
                try clear oz
                try clear om
                try clear ok
                try clear ou
                try clear os
                try clear oa
                try clear o
                try clear bz
                try clear bm
                try clear hbelow
                try clear bk
                try clear bu
                try clear bs
                try clear ba
                try clear rz
                try clear rm
                try clear hright
                try clear rk
                try clear ru
                try clear rs
                try clear ra
                try clear lz
                try clear lm
                try clear hleft
                try clear lk
                try clear lu
                try clear ls
                try clear la
                try clear core
                try clear hother
                try clear hone
                try clear r7
                try clear r6
                try clear r5
                try clear r4
                try clear r3
                try clear r2
                try clear r1
                try clear d7
                try clear d6
                try clear d5
                try clear d4
                try clear d3
                try clear d2
                try clear d1
                try clear rest
                try clear v7
                try clear v6
                try clear v5
                try clear v4
                try clear v3
                try clear v2
                try clear v1
                try clear o7
                try clear o6
                try clear o5
                try clear o4
                try clear o3
                try clear o2
                try clear o1
                try clear N7
                try clear F7
                try clear m7
                intro h8 tk8 m8 o1 o2 o3 o4 o5 o6 o7 v1 v2 v3 v4 v5 v6 v7 rest F8 N8 d1 d2 d3 d4 d5 d6 d7 r1 r2 r3 r4 r5 r6 r7 hz
                obtain ⟨la, ls, lu, lk, ra, rs, ru, rk, ba, bs, bu, bk, hone, hother, e2, e3, mat1, mat2, mat3, rowg, hleft, lm, lz, hright, rm, rz, hbelow, bm, bz⟩ := hz
                replace d2 := d2.trans (congrArg PySem.Data.cell e2)
                replace d3 := d3.trans (congrArg PySem.Data.cell e3)
                refine Stop.mk ?_
                (try k_fold)
                refine' execs_cutJ (Z := fun mm v1 v2 v3 v4 v5 v6 v7 rest => Base D1 D2 D3 G p q r b mm v2 v3 rest ∧ Tk r b mm rest) ?F ?h1 ?h2
                (case F => k_asm)
                case h1 =>
                  (try k_fold)
                  obtain ⟨zvs, zc, zl, zvl, zrows⟩ := id mat3
                  obtain ⟨gas, gc, gl, glen, gall⟩ := id rowg
                  k_steps
                  refine Stop.mk ?_
                  refine comp_range (n := 3) (KRowB 4 (aug r b) 2 rest) KRowB.mono (by rfl) (by k_asm) (by k_asm) (by assumption) (by decide) ?stepA ?finA
                  case stepA =>
                    intro ic ysc tlc hic itc apc tc Ic oIc Cc oCc Dc mC hC tkc Ec hCc hxc Fc Nc offc nec
                    obtain ⟨r19, hr19, as1, c1, h1a, h1b, h1c⟩ := zrows ic hic
                    obtain ⟨x19, xs1, xu1, xk1, hx1, hx2, hx3⟩ := gall ic hic
                    replace hr19 : zvs[((ic : Nat) : Int).toNat]? = some (.ref r19) := hr19
                    replace hx1 : gas[((ic : Nat) : Int).toNat]? = some (.ref x19) := hx1
                    have h0c : (0 : Int) ≤ (ic : Int) := by omega
                    have h63 : (ic : Int) < 2 ^ 63 := by omega
                    k_steps
                    (iterate 6 (try ((try show (_ : Value → Shared → Prop) _ _); k_unfold; (try dsimp only))))
                    exact ItemEnd.by (by k_asm) (by k_asm) (by assumption) (by kcj_all) ⟨_, rfl, app_row h1b (fun j hj => let ⟨a, s, u, k, e1, e2, e3⟩ := h1c j hj; ⟨a, s, u, k, e1, List.mem_append_right _ e2, e3⟩) (List.mem_append_right _ hx2) hx3 (.head _)⟩
                  case finA =>
                  intro ga ysa tla ita apa
                  unfold LCg.FinE
                  intro sD h' tk' F' Nt oS
                  k_steps
                  refine Stop.mk ?_
                  refine' takenM3_use (aug r b) ?k1 ?k2 ?k3 ?k4 ?k5 ?kK ?kd ?ku ?g ?hM ?ret
                  (case k1 => k_asm)
                  (case k2 => k_asm)
                  (case k3 => k_asm)
                  (case k4 => k_asm)
                  (case k5 => k_asm)
                  (case kK => first | exact rfl | assumption)
                  (case kd => ktr_room)
                  (case ku => ktr_units)
                  (case g => assumption)
                  (case hM => exact ⟨_, _, .head _, rowsB_of ita (by kcj_all) (by kcj_all)⟩)
                  case ret =>
                  intro T8 cT8 RR8 vs8 cR8 Fd8 q8 sf8 uf8 kf8 P8 tl8 h' tk' F' Nt hT8 hR8 hF8 zq8 hrows8 apT tk8r
                  refine' rebase Nt ?m1 ?m2 ?m3 ?m4 ?m5 ?m6 ?m7 ?d1 ?d2 ?d3 ?d4 ?d5 ?d6 ?d7 ?kk8
                  (case m1 => exact List.mem_append_right _ (by k_mem))
                  (case m2 => exact List.mem_append_right _ (by k_mem))
                  (case m3 => exact List.mem_append_right _ (by k_mem))
                  (case m4 => exact List.mem_append_right _ (by k_mem))
                  (case m5 => exact List.mem_append_right _ (by k_mem))
                  (case m6 => exact List.mem_append_right _ (by k_mem))
                  (case m7 => exact List.mem_append_right _ (by k_mem))
                  (case d1 => with_reducible assumption)
                  (case d2 => with_reducible assumption)
                  (case d3 => with_reducible assumption)
                  (case d4 => with_reducible assumption)
                  (case d5 => with_reducible assumption)
                  (case d6 => with_reducible assumption)
                  (case d7 => with_reducible assumption)
                  case kk8 =>
                  intro rest8 in8 nc8 Ng8 rr1 rr2 rr3 rr4 rr5 rr6 rr7
                  have sub8 : ∀ p ∈ rest, p ∈ rest8 := fun p hp => in8 p (List.mem_append_right _ ((by kcj_all : ∀ p ∈ rest, p ∈ _) p hp)) (r1 p hp) (r2 p hp) (r3 p hp) (r4 p hp) (r5 p hp) (r6 p hp) (r7 p hp)
                  replace r1 := rr1
                  clear rr1
                  replace r2 := rr2
                  clear rr2
                  replace r3 := rr3
                  clear rr3
                  replace r4 := rr4
                  clear rr4
                  replace r5 := rr5
                  clear rr5
                  replace r6 := rr6
                  clear rr6
                  replace r7 := rr7
                  clear rr7
                  replace hT8 := nc8 _ hT8 nc_tupR
                  replace hR8 := nc8 _ hR8 nc_list
                  replace hF8 := nc8 _ hF8 nc_tup
                  replace hrows8 := hrows8.into nc8
                  clear Nt apT in8 nc8
                  k_steps
                  refine Stop.mk (MidL.intro (by k_asm) (by k_asm) ?_)
                  (refine' JC.intro ?D1 ?D2 ?D3 ?D4 ?D5 ?D6 ?D7 ?d1 ?d2 ?d3 ?d4 ?d5 ?d6 ?d7 ?z; (case D1 => k_upd); (case D2 => k_upd); (case D3 => k_upd); (case D4 => k_upd); (case D5 => k_upd); (case D6 => k_upd); (case D7 => k_upd); (case d1 => with_reducible assumption); (case d2 => with_reducible assumption); (case d3 => with_reducible assumption); (case d4 => with_reducible assumption); (case d5 => with_reducible assumption); (case d6 => with_reducible assumption); (case d7 => with_reducible assumption); skip)
                  case z => exact ⟨Base.sub ⟨la, ls, lu, lk, ra, rs, ru, rk, ba, bs, bu, bk, hone, hother, e2, e3, mat1, mat2, mat3, rowg, hleft, lm, lz, hright, rm, rz, hbelow, bm, bz⟩ (by kcj_all) rfl rfl rfl rfl rfl rfl rfl, _, _, _, _, _, _, _, _, _, rfl, rfl, by k_mem, by k_mem, by with_reducible assumption, by with_reducible assumption, by with_reducible assumption⟩
                case h2 =>
                  try clear bz
                  try clear bm
                  try clear hbelow
                  try clear bk
                  try clear bu
                  try clear bs
                  try clear ba
                  try clear rz
                  try clear rm
                  try clear hright
                  try clear rk
                  try clear ru
                  try clear rs
                  try clear ra
                  try clear lz
                  try clear lm
                  try clear hleft
                  try clear lk
                  try clear lu
                  try clear ls
                  try clear la
                  try clear core
                  try clear hother
                  try clear hone
                  try clear r7
                  try clear r6
                  try clear r5
                  try clear r4
                  try clear r3
                  try clear r2
                  try clear r1
                  try clear d7
                  try clear d6
                  try clear d5
                  try clear d4
                  try clear d3
                  try clear d2
                  try clear d1
                  try clear rest
                  try clear v7
                  try clear v6
                  try clear v5
                  try clear v4
                  try clear v3
                  try clear v2
                  try clear v1
                  try clear o7
                  try clear o6
                  try clear o5
                  try clear o4
                  try clear o3
                  try clear o2
                  try clear o1
                  try clear N8
                  try clear F8
                  try clear m8
                  intro h9 tk9 m9 o1 o2 o3 o4 o5 o6 o7 v1 v2 v3 v4 v5 v6 v7 rest F9 N9 d1 d2 d3 d4 d5 d6 d7 r1 r2 r3 r4 r5 r6 r7 hz
                  obtain ⟨⟨la, ls, lu, lk, ra, rs, ru, rk, ba, bs, bu, bk, hone, hother, e2, e3, mat1, mat2, mat3, rowg, hleft, lm, lz, hright, rm, rz, hbelow, bm, bz⟩, ⟨RR, vsR, cR, Fd, qf, fs, fu, fk, PT, htaken, hfound, tRm, tFm, tz, trows, tkr⟩⟩ := hz
                  replace d2 := d2.trans (congrArg PySem.Data.cell e2)
                  replace d3 := d3.trans (congrArg PySem.Data.cell e3)
                  refine Stop.mk ?_
                  (try k_fold)
                  refine' execs_cutJ (Z := fun mm v1 v2 v3 v4 v5 v6 v7 rest => Base D1 D2 D3 G p q r b mm v2 v3 rest ∧ Tk r b mm rest ∧ det3 r ≠ 0) ?F ?h1 ?h2
                  (case F => k_asm)
                  case h1 =>
                    (try k_fold)
                    have hqf : qf = det3 r := (taken3_det tkr).trans det_aug
                    k_steps
                    refine Stop.mk ?_
                    refine' takenM2_use (p) ?k1 ?k2 ?k3 ?k4 ?k5 ?kK ?kd ?ku ?g ?hM ?ret
                    (case k1 => k_asm)
                    (case k2 => k_asm)
                    (case k3 => k_asm)
                    (case k4 => k_asm)
                    (case k5 => k_asm)
                    (case kK => first | exact rfl | assumption)
                    (case kd => ktr_room)
                    (case ku => ktr_units)
                    (case g => assumption)
                    (case hM => exact mat1.sub (by kcj_all))
                    case ret =>
                    intro T9 cT9 RR9 vs9 cR9 Fd9 q9 sf9 uf9 kf9 P9 tl9 h' tk' F' Nt hT9 hR9 hF9 zq9 hrows9 apT tk9r
                    refine' rebase Nt ?m1 ?m2 ?m3 ?m4 ?m5 ?m6 ?m7 ?d1 ?d2 ?d3 ?d4 ?d5 ?d6 ?d7 ?kk9
                    (case m1 => exact List.mem_append_right _ (by k_mem))
                    (case m2 => exact List.mem_append_right _ (by k_mem))
                    (case m3 => exact List.mem_append_right _ (by k_mem))
                    (case m4 => exact List.mem_append_right _ (by k_mem))
                    (case m5 => exact List.mem_append_right _ (by k_mem))
                    (case m6 => exact List.mem_append_right _ (by k_mem))
                    (case m7 => exact List.mem_append_right _ (by k_mem))
                    (case d1 => with_reducible assumption)
                    (case d2 => with_reducible assumption)
                    (case d3 => with_reducible assumption)
                    (case d4 => with_reducible assumption)
                    (case d5 => with_reducible assumption)
                    (case d6 => with_reducible assumption)
                    (case d7 => with_reducible assumption)
                    case kk9 =>
                    intro rest9 in9 nc9 Ng9 rr1 rr2 rr3 rr4 rr5 rr6 rr7
                    have sub9 : ∀ p ∈ rest, p ∈ rest9 := fun p hp => in9 p (List.mem_append_right _ ((by kcj_all : ∀ p ∈ rest, p ∈ _) p hp)) (r1 p hp) (r2 p hp) (r3 p hp) (r4 p hp) (r5 p hp) (r6 p hp) (r7 p hp)
                    replace r1 := rr1
                    clear rr1
                    replace r2 := rr2
                    clear rr2
                    replace r3 := rr3
                    clear rr3
                    replace r4 := rr4
                    clear rr4
                    replace r5 := rr5
                    clear rr5
                    replace r6 := rr6
                    clear rr6
                    replace r7 := rr7
                    clear rr7
                    replace hT9 := nc9 _ hT9 nc_tupR
                    replace hR9 := nc9 _ hR9 nc_list
                    replace hF9 := nc9 _ hF9 nc_tup
                    replace hrows9 := hrows9.into nc9
                    clear Nt apT in9 nc9
                    replace tk9r : q9 = det2 p := tk9r
                    k_steps
                    · replace lm := sub9 _ lm
                      refine Stop.mk ?_
                      refine' takenM2_use (p) ?k1 ?k2 ?k3 ?k4 ?k5 ?kK ?kd ?ku ?g ?hM ?ret
                      (case k1 => k_asm)
                      (case k2 => k_asm)
                      (case k3 => k_asm)
                      (case k4 => k_asm)
                      (case k5 => k_asm)
                      (case kK => first | exact rfl | assumption)
                      (case kd => ktr_room)
                      (case ku => ktr_units)
                      (case g => assumption)
                      (case hM => exact (mat1.sub sub9).sub (by kcj_all))
                      case ret =>
                      intro T10 cT10 RR10 vs10 cR10 Fd10 q10 sf10 uf10 kf10 P10 tl10 h' tk' F' Nt hT10 hR10 hF10 zq10 hrows10 apT tk10r
                      refine' rebase Nt ?m1 ?m2 ?m3 ?m4 ?m5 ?m6 ?m7 ?d1 ?d2 ?d3 ?d4 ?d5 ?d6 ?d7 ?kk10
                      (case m1 => exact List.mem_append_right _ (by k_mem))
                      (case m2 => exact List.mem_append_right _ (by k_mem))
                      (case m3 => exact List.mem_append_right _ (by k_mem))
                      (case m4 => exact List.mem_append_right _ (by k_mem))
                      (case m5 => exact List.mem_append_right _ (by k_mem))
                      (case m6 => exact List.mem_append_right _ (by k_mem))
                      (case m7 => exact List.mem_append_right _ (by k_mem))
                      (case d1 => with_reducible assumption)
                      (case d2 => with_reducible assumption)
                      (case d3 => with_reducible assumption)
                      (case d4 => with_reducible assumption)
                      (case d5 => with_reducible assumption)
                      (case d6 => with_reducible assumption)
                      (case d7 => with_reducible assumption)
                      case kk10 =>
                      intro rest10 in10 nc10 Ng10 rr1 rr2 rr3 rr4 rr5 rr6 rr7
                      have sub10 : ∀ p ∈ rest9, p ∈ rest10 := fun p hp => in10 p (List.mem_append_right _ ((by kcj_all : ∀ p ∈ rest9, p ∈ _) p hp)) (r1 p hp) (r2 p hp) (r3 p hp) (r4 p hp) (r5 p hp) (r6 p hp) (r7 p hp)
                      replace r1 := rr1
                      clear rr1
                      replace r2 := rr2
                      clear rr2
                      replace r3 := rr3
                      clear rr3
                      replace r4 := rr4
                      clear rr4
                      replace r5 := rr5
                      clear rr5
                      replace r6 := rr6
                      clear rr6
                      replace r7 := rr7
                      clear rr7
                      replace hT10 := nc10 _ hT10 nc_tupR
                      replace hR10 := nc10 _ hR10 nc_list
                      replace hF10 := nc10 _ hF10 nc_tup
                      replace hrows10 := hrows10.into nc10
                      clear Nt apT in10 nc10
                      replace tk10r : q10 = det2 p := tk10r
                      k_steps
                    · refine Stop.mk (MidL.intro (by k_asm) (by k_asm) ?_)
                      (refine' JC.intro ?D1 ?D2 ?D3 ?D4 ?D5 ?D6 ?D7 ?d1 ?d2 ?d3 ?d4 ?d5 ?d6 ?d7 ?z; (case D1 => k_upd); (case D2 => k_upd); (case D3 => k_upd); (case D4 => k_upd); (case D5 => k_upd); (case D6 => k_upd); (case D7 => k_upd); (case d1 => with_reducible assumption); (case d2 => with_reducible assumption); (case d3 => with_reducible assumption); (case d4 => with_reducible assumption); (case d5 => with_reducible assumption); (case d6 => with_reducible assumption); (case d7 => with_reducible assumption); skip)
                      case z => exact ⟨Base.sub ⟨la, ls, lu, lk, ra, rs, ru, rk, ba, bs, bu, bk, hone, hother, e2, e3, mat1, mat2, mat3, rowg, hleft, lm, lz, hright, rm, rz, hbelow, bm, bz⟩ (by kcj_all) rfl rfl rfl rfl rfl rfl rfl, ⟨_, _, _, _, _, _, _, _, _, htaken, hfound, by k_mem, by k_mem, tz, trows.sub (by kcj_all) (fun _ _ _ _ => rfl) (fun _ _ => Nat.le_refl _), tkr⟩, by assumption⟩
                  case h2 =>
                    try clear tkr
                    try clear trows
                    try clear tz
                    try clear tFm
                    try clear tRm
                    try clear hfound
                    try clear htaken
                    try clear PT
                    try clear fk
                    try clear fu
                    try clear fs
                    try clear qf
                    try clear Fd
                    try clear cR
                    try clear vsR
                    try clear RR
                    try clear bz
                    try clear bm
                    try clear hbelow
                    try clear bk
                    try clear bu
                    try clear bs
                    try clear ba
                    try clear rz
                    try clear rm
                    try clear hright
                    try clear rk
                    try clear ru
                    try clear rs
                    try clear ra
                    try clear lz
                    try clear lm
                    try clear hleft
                    try clear lk
                    try clear lu
                    try clear ls
                    try clear la
                    try clear core
                    try clear hother
                    try clear hone
                    try clear r7
                    try clear r6
                    try clear r5
                    try clear r4
                    try clear r3
                    try clear r2
                    try clear r1
                    try clear d7
                    try clear d6
                    try clear d5
                    try clear d4
                    try clear d3
                    try clear d2
                    try clear d1
                    try clear rest
                    try clear v7
                    try clear v6
                    try clear v5
                    try clear v4
                    try clear v3
                    try clear v2
                    try clear v1
                    try clear o7
                    try clear o6
                    try clear o5
                    try clear o4
                    try clear o3
                    try clear o2
                    try clear o1
                    try clear N9
                    try clear F9
                    try clear m9
                    intro h10 tk10 m10 o1 o2 o3 o4 o5 o6 o7 v1 v2 v3 v4 v5 v6 v7 rest F10 N10 d1 d2 d3 d4 d5 d6 d7 r1 r2 r3 r4 r5 r6 r7 hz
                    obtain ⟨⟨la, ls, lu, lk, ra, rs, ru, rk, ba, bs, bu, bk, hone, hother, e2, e3, mat1, mat2, mat3, rowg, hleft, lm, lz, hright, rm, rz, hbelow, bm, bz⟩, ⟨RR, vsR, cR, Fd, qf, fs, fu, fk, PT, htaken, hfound, tRm, tFm, tz, trows, tkr⟩, hdn⟩ := hz
                    replace d2 := d2.trans (congrArg PySem.Data.cell e2)
                    replace d3 := d3.trans (congrArg PySem.Data.cell e3)
                    refine Stop.mk ?_
                    (try k_fold)
                    refine' execs_cutJ (Z := fun mm v1 v2 v3 v4 v5 v6 v7 rest => Two D3 G r b v2 v3 rest ∧ Tk r b mm rest ∧ Slv r b v5 rest) ?F ?h1 ?h2
                    (case F => k_asm)
                    case h1 =>
                      (try k_fold)
                      k_steps
                      refine Stop.mk ?_
                      refine' solvedM_use (r := r) (b := b) ?k1 ?k2 ?k3 ?k4 ?k5 ?kK ?kd ?ku ?g ?hM ?hG ?hnz ?ret
                      (case k1 => k_asm)
                      (case k2 => k_asm)
                      (case k3 => k_asm)
                      (case k4 => k_asm)
                      (case k5 => k_asm)
                      (case kK => first | exact rfl | assumption)
                      (case kd => ktr_room)
                      (case ku => ktr_units)
                      (case g => assumption)
                      (case hM => exact mat3.sub (by kcj_all))
                      (case hG => exact rowg.sub (by kcj_all) (fun _ _ => rfl) (Nat.le_refl _))
                      (case hnz => exact hdn)
                      case ret =>
                      intro sx sD tl10 h' tk' hsol F' Nt srow apT
                      refine' rebase Nt ?m1 ?m2 ?m3 ?m4 ?m5 ?m6 ?m7 ?d1 ?d2 ?d3 ?d4 ?d5 ?d6 ?d7 ?kk10
                      (case m1 => exact List.mem_append_right _ (by k_mem))
                      (case m2 => exact List.mem_append_right _ (by k_mem))
                      (case m3 => exact List.mem_append_right _ (by k_mem))
                      (case m4 => exact List.mem_append_right _ (by k_mem))
                      (case m5 => exact List.mem_append_right _ (by k_mem))
                      (case m6 => exact List.mem_append_right _ (by k_mem))
                      (case m7 => exact List.mem_append_right _ (by k_mem))
                      (case d1 => with_reducible assumption)
                      (case d2 => with_reducible assumption)
                      (case d3 => with_reducible assumption)
                      (case d4 => with_reducible assumption)
                      (case d5 => with_reducible assumption)
                      (case d6 => with_reducible assumption)
                      (case d7 => with_reducible assumption)
                      case kk10 =>
                      intro rest10 in10 nc10 Ng10 rr1 rr2 rr3 rr4 rr5 rr6 rr7
                      have sub10 : ∀ p ∈ rest, p ∈ rest10 := fun p hp => in10 p (List.mem_append_right _ ((by kcj_all : ∀ p ∈ rest, p ∈ _) p hp)) (r1 p hp) (r2 p hp) (r3 p hp) (r4 p hp) (r5 p hp) (r6 p hp) (r7 p hp)
                      replace r1 := rr1
                      clear rr1
                      replace r2 := rr2
                      clear rr2
                      replace r3 := rr3
                      clear rr3
                      replace r4 := rr4
                      clear rr4
                      replace r5 := rr5
                      clear rr5
                      replace r6 := rr6
                      clear rr6
                      replace r7 := rr7
                      clear rr7
                      replace srow := srow.into nc10
                      clear Nt apT in10 nc10
                      k_steps
                      refine Stop.mk (MidL.intro (by k_asm) (by k_asm) ?_)
                      (refine' JC.intro ?D1 ?D2 ?D3 ?D4 ?D5 ?D6 ?D7 ?d1 ?d2 ?d3 ?d4 ?d5 ?d6 ?d7 ?z; (case D1 => k_upd); (case D2 => k_upd); (case D3 => k_upd); (case D4 => k_upd); (case D5 => k_upd); (case D6 => k_upd); (case D7 => k_upd); (case d1 => with_reducible assumption); (case d2 => with_reducible assumption); (case d3 => with_reducible assumption); (case d4 => with_reducible assumption); (case d5 => with_reducible assumption); (case d6 => with_reducible assumption); (case d7 => with_reducible assumption); skip)
                      case z => exact ⟨⟨rfl, rfl, mat3.sub (by kcj_all), rowg.sub (by kcj_all) (fun _ _ => rfl) (Nat.le_refl _)⟩, ⟨_, _, _, _, _, _, _, _, _, htaken, hfound, by k_mem, by k_mem, tz, trows.sub (by kcj_all) (fun _ _ _ _ => rfl) (fun _ _ => Nat.le_refl _), tkr⟩, sx, _, rfl, srow.sub (by kcj_all) (fun _ _ => rfl) (Nat.le_refl _), hsol⟩
                    case h2 =>
                      try clear tkr
                      try clear trows
                      try clear tz
                      try clear tFm
                      try clear tRm
                      try clear hfound
                      try clear htaken
                      try clear PT
                      try clear fk
                      try clear fu
                      try clear fs
                      try clear qf
                      try clear Fd
                      try clear cR
                      try clear vsR
                      try clear RR
                      try clear bz
                      try clear bm
                      try clear hbelow
                      try clear bk
                      try clear bu
                      try clear bs
                      try clear ba
                      try clear rz
                      try clear rm
                      try clear hright
                      try clear rk
                      try clear ru
                      try clear rs
                      try clear ra
                      try clear lz
                      try clear lm
                      try clear hleft
                      try clear lk
                      try clear lu
                      try clear ls
                      try clear la
                      try clear core
                      try clear hother
                      try clear hone
                      try clear r7
                      try clear r6
                      try clear r5
                      try clear r4
                      try clear r3
                      try clear r2
                      try clear r1
                      try clear d7
                      try clear d6
                      try clear d5
                      try clear d4
                      try clear d3
                      try clear d2
                      try clear d1
                      try clear rest
                      try clear v7
                      try clear v6
                      try clear v5
                      try clear v4
                      try clear v3
                      try clear v2
                      try clear v1
                      try clear o7
                      try clear o6
                      try clear o5
                      try clear o4
                      try clear o3
                      try clear o2
                      try clear o1
                      try clear N10
                      try clear F10
                      try clear m10
                      intro h11 tk11 m11 o1 o2 o3 o4 o5 o6 o7 v1 v2 v3 v4 v5 v6 v7 rest F11 N11 d1 d2 d3 d4 d5 d6 d7 r1 r2 r3 r4 r5 r6 r7 hz
                      obtain ⟨⟨e2, e3, mat3, rowg⟩, ⟨RR, vsR, cR, Fd, qf, fs, fu, fk, PT, htaken, hfound, tRm, tFm, tz, trows, tkr⟩, ⟨x, DS, e5, rowx, hsol⟩⟩ := hz
                      replace d2 := d2.trans (congrArg PySem.Data.cell e2)
                      replace d3 := d3.trans (congrArg PySem.Data.cell e3)
                      replace d5 := d5.trans (congrArg PySem.Data.cell e5)
                      refine Stop.mk ?_
                      (try k_fold)
                      refine' execs_cutJ (Z := fun mm v1 v2 v3 v4 v5 v6 v7 rest => Two D3 G r b v2 v3 rest ∧ Slv r b v5 rest) ?F ?h1 ?h2
                      (case F => k_asm)
                      case h1 =>
                        (try k_fold)
                        obtain ⟨e0, e1, e2⟩ := taken3_sol tkr (by rw [det_aug]; exact hdn) hsol
                        have growx := rowx
                        obtain ⟨xc, xa0, xs0, xu0, xk0, xa1, xs1, xu1, xk1, xa2, xs2, xu2, xk2, xh, xm0, xm1, xm2, xz0, xz1, xz2⟩ := rowx.open3
                        obtain ⟨tr0, tr1, tr2, rfl, tw0, tw1, tw2⟩ := trows.open3
                        replace tw0 : RowAt 4 rest tr0 (PT 0) 475 := tw0
                        obtain ⟨t0c, t0a0, t0s0, t0u0, t0k0, t0a1, t0s1, t0u1, t0k1, t0a2, t0s2, t0u2, t0k2, t0a3, t0s3, t0u3, t0k3, t0h, t0m0, t0m1, t0m2, t0m3, t0z0, t0z1, t0z2, t0z3⟩ := tw0.open4
                        replace tw1 : RowAt 4 rest tr1 (PT 1) 475 := tw1
                        obtain ⟨t1c, t1a0, t1s0, t1u0, t1k0, t1a1, t1s1, t1u1, t1k1, t1a2, t1s2, t1u2, t1k2, t1a3, t1s3, t1u3, t1k3, t1h, t1m0, t1m1, t1m2, t1m3, t1z0, t1z1, t1z2, t1z3⟩ := tw1.open4
                        replace tw2 : RowAt 4 rest tr2 (PT 2) 475 := tw2
                        obtain ⟨t2c, t2a0, t2s0, t2u0, t2k0, t2a1, t2s1, t2u1, t2k1, t2a2, t2s2, t2u2, t2k2, t2a3, t2s3, t2u3, t2k3, t2h, t2m0, t2m1, t2m2, t2m3, t2z0, t2z1, t2z2, t2z3⟩ := tw2.open4
                        k_steps
                        refine Stop.mk (MidL.intro (by k_asm) (by k_asm) ?_)
                        (refine' JC.intro ?D1 ?D2 ?D3 ?D4 ?D5 ?D6 ?D7 ?d1 ?d2 ?d3 ?d4 ?d5 ?d6 ?d7 ?z; (case D1 => k_upd); (case D2 => k_upd); (case D3 => k_upd); (case D4 => k_upd); (case D5 => k_upd); (case D6 => k_upd); (case D7 => k_upd); (case d1 => with_reducible assumption); (case d2 => with_reducible assumption); (case d3 => with_reducible assumption); (case d4 => with_reducible assumption); (case d5 => with_reducible assumption); (case d6 => with_reducible assumption); (case d7 => with_reducible assumption); skip)
                        case z => exact ⟨⟨rfl, rfl, mat3.sub (by kcj_all), rowg.sub (by kcj_all) (fun _ _ => rfl) (Nat.le_refl _)⟩, _, _, rfl, growx.sub (by kcj_all) (fun _ _ => rfl) (Nat.le_refl _), hsol⟩
                      case h2 =>
                        try clear hsol
                        try clear rowx
                        try clear DS
                        try clear x
                        try clear tkr
                        try clear trows
                        try clear tz
                        try clear tFm
                        try clear tRm
                        try clear hfound
                        try clear htaken
                        try clear PT
                        try clear fk
                        try clear fu
                        try clear fs
                        try clear qf
                        try clear Fd
                        try clear cR
                        try clear vsR
                        try clear RR
                        try clear rowg
                        try clear mat3
                        try clear r7
                        try clear r6
                        try clear r5
                        try clear r4
                        try clear r3
                        try clear r2
                        try clear r1
                        try clear d7
                        try clear d6
                        try clear d5
                        try clear d4
                        try clear d3
                        try clear d2
                        try clear d1
                        try clear rest
                        try clear v7
                        try clear v6
                        try clear v5
                        try clear v4
                        try clear v3
                        try clear v2
                        try clear v1
                        try clear o7
                        try clear o6
                        try clear o5
                        try clear o4
                        try clear o3
                        try clear o2
                        try clear o1
                        try clear N11
                        try clear F11
                        try clear m11
                        intro h12 tk12 m12 o1 o2 o3 o4 o5 o6 o7 v1 v2 v3 v4 v5 v6 v7 rest F12 N12 d1 d2 d3 d4 d5 d6 d7 r1 r2 r3 r4 r5 r6 r7 hz
                        obtain ⟨⟨e2, e3, mat3, rowg⟩, ⟨x, DS, e5, rowx, hsol⟩⟩ := hz
                        replace d2 := d2.trans (congrArg PySem.Data.cell e2)
                        replace d3 := d3.trans (congrArg PySem.Data.cell e3)
                        replace d5 := d5.trans (congrArg PySem.Data.cell e5)
                        refine Stop.mk ?_
                        (try k_fold)
                        refine' execs_cutJ (Z := fun mm v1 v2 v3 v4 v5 v6 v7 rest => Two D3 G r b v2 v3 rest ∧ (∃ D t, v5 = some (.ref D) ∧ RowAt 3 rest D x 70 ∧ v6 = some (.int (((x 0).den : Int) * ((x 1).den : Int) * ((x 2).den : Int)) t))) ?F ?h1 ?h2
                        (case F => k_asm)
                        case h1 =>
                          (try k_fold)
                          have growx := rowx
                          obtain ⟨xc, xa0, xs0, xu0, xk0, xa1, xs1, xu1, xk1, xa2, xs2, xu2, xk2, xh, xm0, xm1, xm2, xz0, xz1, xz2⟩ := rowx.open3
                          have xf0 : Fit ((x 0).den : Int) := xz0.fitD (by decide)
                          have xf1 : Fit ((x 1).den : Int) := xz1.fitD (by decide)
                          have xf2 : Fit ((x 2).den : Int) := xz2.fitD (by decide)
                          have xf3 : Fit (((x 0).den : Int) * ((x 1).den : Int)) := Fit.mul2 (den_le xz0) (den_le xz1)
                          k_steps
                          refine Stop.mk (MidL.intro (by k_asm) (by k_asm) ?_)
                          (refine' JC.intro ?D1 ?D2 ?D3 ?D4 ?D5 ?D6 ?D7 ?d1 ?d2 ?d3 ?d4 ?d5 ?d6 ?d7 ?z; (case D1 => k_upd); (case D2 => k_upd); (case D3 => k_upd); (case D4 => k_upd); (case D5 => k_upd); (case D6 => k_upd); (case D7 => k_upd); (case d1 => with_reducible assumption); (case d2 => with_reducible assumption); (case d3 => with_reducible assumption); (case d4 => with_reducible assumption); (case d5 => with_reducible assumption); (case d6 => with_reducible assumption); (case d7 => with_reducible assumption); skip)
                          case z => exact ⟨⟨rfl, rfl, mat3.sub (by kcj_all), rowg.sub (by kcj_all) (fun _ _ => rfl) (Nat.le_refl _)⟩, _, _, rfl, growx.sub (by kcj_all) (fun _ _ => rfl) (Nat.le_refl _), rfl⟩
                        case h2 =>
                          try clear rowx
                          try clear DS
                          try clear rowg
                          try clear mat3
                          try clear r7
                          try clear r6
                          try clear r5
                          try clear r4
                          try clear r3
                          try clear r2
                          try clear r1
                          try clear d7
                          try clear d6
                          try clear d5
                          try clear d4
                          try clear d3
                          try clear d2
                          try clear d1
                          try clear rest
                          try clear v7
                          try clear v6
                          try clear v5
                          try clear v4
                          try clear v3
                          try clear v2
                          try clear v1
                          try clear o7
                          try clear o6
                          try clear o5
                          try clear o4
                          try clear o3
                          try clear o2
                          try clear o1
                          try clear N12
                          try clear F12
                          try clear m12
                          intro h13 tk13 m13 o1 o2 o3 o4 o5 o6 o7 v1 v2 v3 v4 v5 v6 v7 rest F13 N13 d1 d2 d3 d4 d5 d6 d7 r1 r2 r3 r4 r5 r6 r7 hz
                          obtain ⟨⟨e2, e3, mat3, rowg⟩, ⟨DS, tM, e5, rowx, e6⟩⟩ := hz
                          replace d2 := d2.trans (congrArg PySem.Data.cell e2)
                          replace d3 := d3.trans (congrArg PySem.Data.cell e3)
                          replace d5 := d5.trans (congrArg PySem.Data.cell e5)
                          replace d6 := d6.trans (congrArg PySem.Data.cell e6)
                          refine Stop.mk (wpAny_execs_cons ?_)
                          k_steps
                          refine Stop.mk ?_
                          refine' iter_st (J := (fun I v mm nw => LCg.Off1 I nw ∧ JC (fun mm v1 v2 v3 v4 v5 v6 v7 rest => Two D3 G r b v2 v3 rest ∧ (∃ D t, v5 = some (.ref D) ∧ RowAt 3 rest D x 70 ∧ v6 = some (.int (((x 0).den : Int) * ((x 1).den : Int) * ((x 2).den : Int)) t))) s1.heap.objs.size mm nw)) (T := fun mm nw => JC (fun mm v1 v2 v3 v4 v5 v6 v7 rest => Two D3 G r b v2 v3 rest ∧ (∃ D t, v5 = some (.ref D) ∧ RowAt 3 rest D x 70 ∧ v6 = some (.int (((x 0).den : Int) * ((x 1).den : Int) * ((x 2).den : Int)) t))) s1.heap.objs.size mm nw) rfl ?hr ?hab ?F ?N ?hE ?st ?mono ?h2 ?h3x1
                          (case hr => assumption)
                          (case hab => decide)
                          (case F => k_asm)
                          (case N => k_asm)
                          (case hE => first | passes_own | with_unfolding_all passes_own)
                          case st =>
                            (refine' JC.intro ?D1 ?D2 ?D3 ?D4 ?D5 ?D6 ?D7 ?d1 ?d2 ?d3 ?d4 ?d5 ?d6 ?d7 ?z; (case D1 => k_upd); (case D2 => k_upd); (case D3 => k_upd); (case D4 => k_upd); (case D5 => k_upd); (case D6 => k_upd); (case D7 => k_upd); (case d1 => with_reducible assumption); (case d2 => with_reducible assumption); (case d3 => with_reducible assumption); (case d4 => with_reducible assumption); (case d5 => with_reducible assumption); (case d6 => with_reducible assumption); (case d7 => with_reducible assumption); skip)
                            case z => exact ⟨⟨rfl, rfl, mat3.sub (by kcj_all), rowg.sub (by kcj_all) (fun _ _ => rfl) (Nat.le_refl _)⟩, _, _, rfl, rowx.sub (by kcj_all) (fun _ _ => rfl) (Nat.le_refl _), rfl⟩
                          case mono => exact fun I nw ho hh => ⟨ho, hh⟩
                          case h2 =>
                            try clear rowx
                            try clear tM
                            try clear DS
                            try clear rowg
                            try clear mat3
                            try clear r7
                            try clear r6
                            try clear r5
                            try clear r4
                            try clear r3
                            try clear r2
                            try clear r1
                            try clear d7
                            try clear d6
                            try clear d5
                            try clear d4
                            try clear d3
                            try clear d2
                            try clear d1
                            try clear rest
                            try clear v7
                            try clear v6
                            try clear v5
                            try clear v4
                            try clear v3
                            try clear v2
                            try clear v1
                            try clear o7
                            try clear o6
                            try clear o5
                            try clear o4
                            try clear o3
                            try clear o2
                            try clear o1
                            try clear N13
                            try clear F13
                            try clear m13
                            intro I1 k0 m0 nw0 g1 g2 hJ0 it1 t1 h1 tk1 F1 N1
                            (try k_fold)
                            obtain ⟨oI, o1, o2, o3, o4, o5, o6, o7, v1, v2, v3, v4, v5, v6, v7, rest, d1, d2, d3, d4, d5, d6, d7, rfl, r1, r2, r3, r4, r5, r6, r7, ⟨e2, e3, mat3, rowg⟩, ⟨DS, tM, e5, rowx, e6⟩⟩ := hJ0
                            replace d2 := d2.trans (congrArg PySem.Data.cell e2)
                            replace d3 := d3.trans (congrArg PySem.Data.cell e3)
                            replace d5 := d5.trans (congrArg PySem.Data.cell e5)
                            replace d6 := d6.trans (congrArg PySem.Data.cell e6)
                            obtain ⟨w1, w2, w3, w4, w5, w6, w7, w8, w9, w10, w11, w12, w13, w14, w15⟩ := off7_of oI
                            clear oI
                            have hK : k0.toNat < 3 := by omega
                            have gk63 : k0 < 2 ^ 63 := by omega
                            obtain ⟨zvs, zc0, zl, zrows⟩ := id mat3
                            obtain ⟨zr, zv, zrow⟩ := zrows.2 k0.toNat hK
                            replace zrow : RowAt 3 rest zr (r k0.toNat) 2 := zrow
                            obtain ⟨zc, za0, zs0, zu0, zk0, za1, zs1, zu1, zk1, za2, zs2, zu2, zk2, zh, zm0, zm1, zm2, zz0, zz1, zz2⟩ := zrow.open3
                            obtain ⟨gc, ga0, gs0, gu0, gk0, ga1, gs1, gu1, gk1, ga2, gs2, gu2, gk2, gx, gsx, gux, gkx, gh, gm0, gm1, gm2, gz0, gz1, gz2, gcol, gmx, gzx⟩ := RowAt.openc3 (v := k0.toNat) rowg hK
                            obtain ⟨xc, xa0, xs0, xu0, xk0, xa1, xs1, xu1, xk1, xa2, xs2, xu2, xk2, xx, xsx, xux, xkx, xh, xm0, xm1, xm2, xz0, xz1, xz2, xcol, xmx, xzx⟩ := RowAt.openc3 (v := k0.toNat) rowx hK
                            have mN : ((((x 0).den : Int) * ((x 1).den : Int) * ((x 2).den : Int))).natAbs ≤ 2 ^ 210 := nb_mul (e := 140) (f := 70) (nb_mul (e := 70) (f := 70) (den_le xz0) (den_le xz1)) (den_le xz2)
                            have mF : Fit (((x 0).den : Int) * ((x 1).den : Int) * ((x 2).den : Int)) := nb_fit mN (by decide)
                            have zd0 : Fit ((r k0.toNat 0).den : Int) := zz0.fitD (by decide)
                            have zn0 : Fit (r k0.toNat 0).num := zz0.fitN (by decide)
                            have zx0 : ((r k0.toNat 0).den : Int) ≠ 0 := den_ne
                            have zqN0 : ((6 : Int).fdiv ((r k0.toNat 0).den : Int)).natAbs ≤ 2 ^ 3 := nb_fdiv (by decide) (Int.natCast_nonneg _)
                            have zqF0 : Fit ((6 : Int).fdiv ((r k0.toNat 0).den : Int)) := nb_fit zqN0 (by decide)
                            have zwN0 : ((r k0.toNat 0).num * (6 : Int).fdiv ((r k0.toNat 0).den : Int)).natAbs ≤ 2 ^ 5 := nb_mul zz0.1 zqN0
                            have zwF0 : Fit ((r k0.toNat 0).num * (6 : Int).fdiv ((r k0.toNat 0).den : Int)) := nb_fit zwN0 (by decide)
                            have xn0 : Fit (x 0).num := xz0.fitN (by decide)
                            have xd0 : Fit ((x 0).den : Int) := xz0.fitD (by decide)
                            have xx0 : ((x 0).den : Int) ≠ 0 := den_ne
                            have xqN0 : (((((x 0).den : Int) * ((x 1).den : Int) * ((x 2).den : Int))).fdiv ((x 0).den : Int)).natAbs ≤ 2 ^ 210 := nb_fdiv mN (Int.natCast_nonneg _)
                            have xqF0 : Fit (((((x 0).den : Int) * ((x 1).den : Int) * ((x 2).den : Int))).fdiv ((x 0).den : Int)) := nb_fit xqN0 (by decide)
                            have xwN0 : ((r k0.toNat 0).num * (6 : Int).fdiv ((r k0.toNat 0).den : Int) * (x 0).num).natAbs ≤ 2 ^ 75 := nb_mul zwN0 xz0.1
                            have xwF0 : Fit ((r k0.toNat 0).num * (6 : Int).fdiv ((r k0.toNat 0).den : Int) * (x 0).num) := nb_fit xwN0 (by decide)
                            have zd1 : Fit ((r k0.toNat 1).den : Int) := zz1.fitD (by decide)
                            have zn1 : Fit (r k0.toNat 1).num := zz1.fitN (by decide)
                            have zx1 : ((r k0.toNat 1).den : Int) ≠ 0 := den_ne
                            have zqN1 : ((6 : Int).fdiv ((r k0.toNat 1).den : Int)).natAbs ≤ 2 ^ 3 := nb_fdiv (by decide) (Int.natCast_nonneg _)
                            have zqF1 : Fit ((6 : Int).fdiv ((r k0.toNat 1).den : Int)) := nb_fit zqN1 (by decide)
                            have zwN1 : ((r k0.toNat 1).num * (6 : Int).fdiv ((r k0.toNat 1).den : Int)).natAbs ≤ 2 ^ 5 := nb_mul zz1.1 zqN1
                            have zwF1 : Fit ((r k0.toNat 1).num * (6 : Int).fdiv ((r k0.toNat 1).den : Int)) := nb_fit zwN1 (by decide)
                            have xn1 : Fit (x 1).num := xz1.fitN (by decide)
                            have xd1 : Fit ((x 1).den : Int) := xz1.fitD (by decide)
                            have xx1 : ((x 1).den : Int) ≠ 0 := den_ne
                            have xqN1 : (((((x 0).den : Int) * ((x 1).den : Int) * ((x 2).den : Int))).fdiv ((x 1).den : Int)).natAbs ≤ 2 ^ 210 := nb_fdiv mN (Int.natCast_nonneg _)
                            have xqF1 : Fit (((((x 0).den : Int) * ((x 1).den : Int) * ((x 2).den : Int))).fdiv ((x 1).den : Int)) := nb_fit xqN1 (by decide)
                            have xwN1 : ((r k0.toNat 1).num * (6 : Int).fdiv ((r k0.toNat 1).den : Int) * (x 1).num).natAbs ≤ 2 ^ 75 := nb_mul zwN1 xz1.1
                            have xwF1 : Fit ((r k0.toNat 1).num * (6 : Int).fdiv ((r k0.toNat 1).den : Int) * (x 1).num) := nb_fit xwN1 (by decide)
                            have zd2 : Fit ((r k0.toNat 2).den : Int) := zz2.fitD (by decide)
                            have zn2 : Fit (r k0.toNat 2).num := zz2.fitN (by decide)
                            have zx2 : ((r k0.toNat 2).den : Int) ≠ 0 := den_ne
                            have zqN2 : ((6 : Int).fdiv ((r k0.toNat 2).den : Int)).natAbs ≤ 2 ^ 3 := nb_fdiv (by decide) (Int.natCast_nonneg _)
                            have zqF2 : Fit ((6 : Int).fdiv ((r k0.toNat 2).den : Int)) := nb_fit zqN2 (by decide)
                            have zwN2 : ((r k0.toNat 2).num * (6 : Int).fdiv ((r k0.toNat 2).den : Int)).natAbs ≤ 2 ^ 5 := nb_mul zz2.1 zqN2
                            have zwF2 : Fit ((r k0.toNat 2).num * (6 : Int).fdiv ((r k0.toNat 2).den : Int)) := nb_fit zwN2 (by decide)
                            have xn2 : Fit (x 2).num := xz2.fitN (by decide)
                            have xd2 : Fit ((x 2).den : Int) := xz2.fitD (by decide)
                            have xx2 : ((x 2).den : Int) ≠ 0 := den_ne
                            have xqN2 : (((((x 0).den : Int) * ((x 1).den : Int) * ((x 2).den : Int))).fdiv ((x 2).den : Int)).natAbs ≤ 2 ^ 210 := nb_fdiv mN (Int.natCast_nonneg _)
                            have xqF2 : Fit (((((x 0).den : Int) * ((x 1).den : Int) * ((x 2).den : Int))).fdiv ((x 2).den : Int)) := nb_fit xqN2 (by decide)
                            have xwN2 : ((r k0.toNat 2).num * (6 : Int).fdiv ((r k0.toNat 2).den : Int) * (x 2).num).natAbs ≤ 2 ^ 75 := nb_mul zwN2 xz2.1
                            have xwF2 : Fit ((r k0.toNat 2).num * (6 : Int).fdiv ((r k0.toNat 2).den : Int) * (x 2).num) := nb_fit xwN2 (by decide)
                            have gn : Fit (b k0.toNat).num := gzx.fitN (by decide)
                            have f6 : Fit (6 : Int) := le_fit (e := 3) (by decide) (by decide)
                            have g6N : ((b k0.toNat).num * 6).natAbs ≤ 2 ^ 5 := nb_mul gzx.1 (f := 3) (by decide)
                            have g6F : Fit ((b k0.toNat).num * 6) := nb_fit g6N (by decide)
                            have heq := heq_sum (whole_law (most := (((x 0).den : Int) * ((x 1).den : Int) * ((x 2).den : Int))) (ent3 _ 0 hK (by decide)).2 (ent3 _ 1 hK (by decide)).2 (ent3 _ 2 hK (by decide)).2 (bden _ hK) (hsol _ hK : r k0.toNat 0 * x 0 + r k0.toNat 1 * x 1 + r k0.toNat 2 * x 2 = b k0.toNat) rfl)
                            have rs := rnd_sz xzx
                            have gp1 := gap_le (p := x k0.toNat)
                            have gp2 := gap_ge (p := x k0.toNat)
                            k_steps
                            refine Stop.mk (wpAny_execs_cons ?_)
                            k_steps
                            refine Stop.mk (wpAny_execs_cons ?_)
                            k_steps
                            refine Stop.mk (wpAny_execs_cons ?_)
                            k_steps
                            refine Stop.mk ?_
                            refine' unrEnd_st (T := fun mm nw => JC (fun mm v1 v2 v3 v4 v5 v6 v7 rest => Two D3 G r b v2 v3 rest ∧ (∃ D t, v5 = some (.ref D) ∧ RowAt 3 rest D x 70 ∧ v6 = some (.int (((x 0).den : Int) * ((x 1).den : Int) * ((x 2).den : Int)) t))) s1.heap.objs.size mm nw) ?F ?N ?d0 ?st ?mono ?off
                            (case F => k_asm)
                            (case N => k_asm)
                            (case d0 => k_upd)
                            case st =>
                              (refine' JC.intro ?D1 ?D2 ?D3 ?D4 ?D5 ?D6 ?D7 ?d1 ?d2 ?d3 ?d4 ?d5 ?d6 ?d7 ?z; (case D1 => k_upd); (case D2 => k_upd); (case D3 => k_upd); (case D4 => k_upd); (case D5 => k_upd); (case D6 => k_upd); (case D7 => k_upd); (case d1 => with_reducible assumption); (case d2 => with_reducible assumption); (case d3 => with_reducible assumption); (case d4 => with_reducible assumption); (case d5 => with_reducible assumption); (case d6 => with_reducible assumption); (case d7 => with_reducible assumption); skip)
                              case z => exact ⟨⟨rfl, rfl, mat3.sub (by kcj_all), rowg.sub (by kcj_all) (fun _ _ => rfl) (Nat.le_refl _)⟩, _, _, rfl, rowx.sub (by kcj_all) (fun _ _ => rfl) (Nat.le_refl _), rfl⟩
                            case mono => exact fun nw ho hh => ⟨ho, hh⟩
                            case off => exact fun _ _ hh => hh.1
                          case h3x1 =>
                            try clear rowx
                            try clear tM
                            try clear DS
                            try clear rowg
                            try clear mat3
                            try clear r7
                            try clear r6
                            try clear r5
                            try clear r4
                            try clear r3
                            try clear r2
                            try clear r1
                            try clear d7
                            try clear d6
                            try clear d5
                            try clear d4
                            try clear d3
                            try clear d2
                            try clear d1
                            try clear rest
                            try clear v7
                            try clear v6
                            try clear v5
                            try clear v4
                            try clear v3
                            try clear v2
                            try clear v1
                            try clear o7
                            try clear o6
                            try clear o5
                            try clear o4
                            try clear o3
                            try clear o2
                            try clear o1
                            try clear N13
                            try clear F13
                            try clear m13
                            intro I1 m0 nw0 hJ0
                            refine TurnsC.zero ?_
                            intro h2 tk2 F2 N2
                            (try k_fold)
                            obtain ⟨oI, o1, o2, o3, o4, o5, o6, o7, v1, v2, v3, v4, v5, v6, v7, rest, d1, d2, d3, d4, d5, d6, d7, rfl, r1, r2, r3, r4, r5, r6, r7, ⟨e2, e3, mat3, rowg⟩, ⟨DS, tM, e5, rowx, e6⟩⟩ := hJ0
                            replace d2 := d2.trans (congrArg PySem.Data.cell e2)
                            replace d3 := d3.trans (congrArg PySem.Data.cell e3)
                            replace d5 := d5.trans (congrArg PySem.Data.cell e5)
                            replace d6 := d6.trans (congrArg PySem.Data.cell e6)
                            k_steps
  )
end Mine
end
section
open PySem PySem.W PyProof.Rows
set_option Elab.async false
set_option maxRecDepth 100000
set_option maxHeartbeats 8000000
-- names that are taken: with them the kit lays no twins of the pieces of the head (they would be 12 MB of the compiled file; the kernel does without them in the same time)
namespace Mine.Top
theorem top.tw10058112238432936961 : True := trivial
theorem top.tw10068418520580107877 : True := trivial
theorem top.tw10212905355557100877 : True := trivial
theorem top.tw10432763288346908882 : True := trivial
theorem top.tw10467444997060244163 : True := trivial
theorem top.tw10669673304643219644 : True := trivial
theorem top.tw10713960638157663676 : True := trivial
theorem top.tw10745873847041992082 : True := trivial
theorem top.tw1075256721157656082 : True := trivial
theorem top.tw10763811124548441845 : True := trivial
theorem top.tw10771190230988332227 : True := trivial
theorem top.tw10916443811875114535 : True := trivial
theorem top.tw10949323787603943750 : True := trivial
theorem top.tw11209949453820592326 : True := trivial
theorem top.tw11471320066071021895 : True := trivial
theorem top.tw11695678359182533179 : True := trivial
theorem top.tw11821032011705431320 : True := trivial
theorem top.tw12121405172671832324 : True := trivial
theorem top.tw12260836436630022345 : True := trivial
theorem top.tw123575803245318863 : True := trivial
theorem top.tw12384969271031056036 : True := trivial
theorem top.tw12585153658432637080 : True := trivial
theorem top.tw12599503098379068906 : True := trivial
theorem top.tw12600844121006929424 : True := trivial
theorem top.tw12639079738579082565 : True := trivial
theorem top.tw12821283042918065793 : True := trivial
theorem top.tw12840352599299811947 : True := trivial
theorem top.tw12856146500540518295 : True := trivial
theorem top.tw13132544622061412643 : True := trivial
theorem top.tw13401440768253913400 : True := trivial
theorem top.tw13715423118652779535 : True := trivial
theorem top.tw13811924310912336358 : True := trivial
theorem top.tw14108552133939304354 : True := trivial
theorem top.tw14200866949195012664 : True := trivial
theorem top.tw1430775405710232842 : True := trivial
theorem top.tw14498544167054182220 : True := trivial
theorem top.tw14664603718779664509 : True := trivial
theorem top.tw14775606685492466730 : True := trivial
theorem top.tw14957913531151301612 : True := trivial
theorem top.tw14993532971715333375 : True := trivial
theorem top.tw15231141206701402388 : True := trivial
theorem top.tw15261241122649559395 : True := trivial
theorem top.tw15261956739040817624 : True := trivial
theorem top.tw15281259612452418260 : True := trivial
theorem top.tw15293911077009920862 : True := trivial
theorem top.tw15446154749514425640 : True := trivial
theorem top.tw15479242877455661090 : True := trivial
theorem top.tw15612066496846180989 : True := trivial
theorem top.tw15720504430798929181 : True := trivial
theorem top.tw15804653344400487838 : True := trivial
theorem top.tw15812342734255450303 : True := trivial
theorem top.tw15844244943476290101 : True := trivial
theorem top.tw1584431548695211331 : True := trivial
theorem top.tw15884021065676837829 : True := trivial
theorem top.tw15896986635814018131 : True := trivial
theorem top.tw15919280249388071726 : True := trivial
theorem top.tw1596467892798833340 : True := trivial
theorem top.tw160585294637770978 : True := trivial
theorem top.tw16310997722897552746 : True := trivial
theorem top.tw16453950939506493409 : True := trivial
theorem top.tw16490080455644612535 : True := trivial
theorem top.tw16647859895883695540 : True := trivial
theorem top.tw16655187505211542413 : True := trivial
theorem top.tw16732489192109996526 : True := trivial
theorem top.tw16831744122525283258 : True := trivial
theorem top.tw169908361277899901 : True := trivial
theorem top.tw17061005036101022350 : True := trivial
theorem top.tw17163632997124231589 : True := trivial
theorem top.tw17176853649118170895 : True := trivial
theorem top.tw17216435565737642364 : True := trivial
theorem top.tw17346150629396980333 : True := trivial
theorem top.tw17390749763158340464 : True := trivial
theorem top.tw17475363804170165990 : True := trivial
theorem top.tw17675397441276078998 : True := trivial
theorem top.tw17802058313640641574 : True := trivial
theorem top.tw17833761188521502007 : True := trivial
theorem top.tw1788706168949521446 : True := trivial
theorem top.tw1796660909936457082 : True := trivial
theorem top.tw17987623973144800596 : True := trivial
theorem top.tw18112519284947974683 : True := trivial
theorem top.tw18184320770442099722 : True := trivial
theorem top.tw18211661927152927855 : True := trivial
theorem top.tw18363877418046365705 : True := trivial
theorem top.tw1871174774751780345 : True := trivial
theorem top.tw1891359628262888297 : True := trivial
theorem top.tw1898545398797299429 : True := trivial
theorem top.tw1915865982436644747 : True := trivial
theorem top.tw2090836676184354710 : True := trivial
theorem top.tw2106894587396396013 : True := trivial
theorem top.tw2110170432033786025 : True := trivial
theorem top.tw2166499237780030531 : True := trivial
theorem top.tw2451303272637746872 : True := trivial
theorem top.tw2488986981084469643 : True := trivial
theorem top.tw2584583385665843927 : True := trivial
theorem top.tw2689902900001779913 : True := trivial
theorem top.tw2715410831675653276 : True := trivial
theorem top.tw2957174529946461585 : True := trivial
theorem top.tw2977739969258729902 : True := trivial
theorem top.tw3027080902060680227 : True := trivial
theorem top.tw3064631103752089250 : True := trivial
theorem top.tw3192711775274842916 : True := trivial
theorem top.tw3208159568538540636 : True := trivial
theorem top.tw3250204200855895381 : True := trivial
theorem top.tw3378856729878930660 : True := trivial
theorem top.tw3683152981817409773 : True := trivial
theorem top.tw3748388228158838549 : True := trivial
theorem top.tw3846151692361496306 : True := trivial
theorem top.tw406211269986541411 : True := trivial
theorem top.tw4115837265854133503 : True := trivial
theorem top.tw4141790740062770847 : True := trivial
theorem top.tw4197210476434597972 : True := trivial
theorem top.tw4268127970281410352 : True := trivial
theorem top.tw431816166971917138 : True := trivial
theorem top.tw4399986937459002157 : True := trivial
theorem top.tw4464332997745542043 : True := trivial
theorem top.tw4586647414636429200 : True := trivial
theorem top.tw4587109597807087343 : True := trivial
theorem top.tw4727421863499008245 : True := trivial
theorem top.tw492646490706957178 : True := trivial
theorem top.tw4946646184479374529 : True := trivial
theorem top.tw5046146063605913802 : True := trivial
theorem top.tw5133148509770946505 : True := trivial
theorem top.tw5379405790542106995 : True := trivial
theorem top.tw6014351844597818696 : True := trivial
theorem top.tw6173264255396149071 : True := trivial
theorem top.tw619431368658329113 : True := trivial
theorem top.tw6454109200688527421 : True := trivial
theorem top.tw6456631031611048718 : True := trivial
theorem top.tw661247311295507466 : True := trivial
theorem top.tw6620229189235748656 : True := trivial
theorem top.tw6773684361029367909 : True := trivial
theorem top.tw691009448912864944 : True := trivial
theorem top.tw710826672918220719 : True := trivial
theorem top.tw7419428154172044436 : True := trivial
theorem top.tw7502620961528828729 : True := trivial
theorem top.tw7774716552391526884 : True := trivial
theorem top.tw7795372672749737130 : True := trivial
theorem top.tw7810072088290289063 : True := trivial
theorem top.tw7866401140759250251 : True := trivial
theorem top.tw8029383352214541025 : True := trivial
theorem top.tw8144265713865501380 : True := trivial
theorem top.tw8294950388526996308 : True := trivial
theorem top.tw8414321466113859251 : True := trivial
theorem top.tw8444309603480723342 : True := trivial
theorem top.tw847000160059904716 : True := trivial
theorem top.tw8632372494310590311 : True := trivial
theorem top.tw8868458286543767941 : True := trivial
theorem top.tw8904046441437523598 : True := trivial
theorem top.tw8905071073223171582 : True := trivial
theorem top.tw8987385033611732443 : True := trivial
theorem top.tw9036232728414964520 : True := trivial
theorem top.tw9149429647661953600 : True := trivial
theorem top.tw9155779294352413450 : True := trivial
theorem top.tw9254848952448691300 : True := trivial
theorem top.tw9290584079326879197 : True := trivial
theorem top.tw9303683216210647246 : True := trivial
theorem top.tw9368473287626087092 : True := trivial
theorem top.tw9646982149548617158 : True := trivial
theorem top.tw9779895525888082694 : True := trivial
theorem top.tw9838729804997261582 : True := trivial
theorem top.tw9841462311515225326 : True := trivial
theorem top.tw996889413506771708 : True := trivial
theorem top.tw9974907798774583919 : True := trivial
set_option Elab.async true in
theorem top : PySem.Challenge.rw_sz0002_01.Holds := by
  w_on
  o_law
  k_head
  case hw => w_witness2
  exact Mine.law_walk
end Mine.Top
end
set_option Elab.async false
set_option maxRecDepth 100000 in
set_option maxHeartbeats 8000000 in
theorem PySem.Challenge.cw_sz0002_01_holds : PySem.Challenge.rw_sz0002_01.Holds := by
  exact Mine.Top.top
