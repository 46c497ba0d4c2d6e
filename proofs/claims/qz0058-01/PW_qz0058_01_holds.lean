import PyProof.Rows.All
import Wide.All
import OpenK.AllK
import Wide.FinOn
import PySem.Challenge.RW_qz0058_01
open PySem PySem.W PyProof.Rows PySem.Calls PySem.Spec
open PySem.Builtin.Int (intBits)
set_option Elab.async false
set_option maxRecDepth 100000
namespace Mine
set_option maxHeartbeats 8000000 in
open_top hd for PySem.Challenge.rw_qz0058_01
-- MATH BEGIN
theorem gcd_st0 {x y : Int} (hy : 0 ≤ y) : 0 ≤ (if x < 0 then -x else x) ∧ 0 ≤ y ∧ Int.gcd (if x < 0 then -x else x) y = Int.gcd x y := by
  refine ⟨by split <;> omega, hy, ?_⟩
  split
  · rw [Int.neg_gcd]
  · rfl
theorem gcd_st1 {f s : Int} {g : Nat} (h1 : 0 ≤ f) (h2 : 0 ≤ s) (h3 : Int.gcd f s = g) : 0 ≤ s ∧ 0 ≤ f.fmod s ∧ Int.gcd s (f.fmod s) = g := by
  refine ⟨h2, Int.fmod_nonneg h1 h2, ?_⟩
  rw [← h3, Int.fmod_eq_emod_of_nonneg f h2, Int.gcd_comm f s]
  have h4 := Int.gcd_mul_left_add_right s (f % s) (f / s)
  rw [Int.mul_ediv_add_emod] at h4
  exact h4.symm
theorem gcd_me {f s : Int} (hs : s > 0) : (f.fmod s).toNat < s.toNat := by
  have h1 := Int.fmod_lt_of_pos f hs
  omega
theorem gcd_en {f s : Int} {g : Nat} (h1 : 0 ≤ f) (h2 : 0 ≤ s) (h3 : Int.gcd f s = g) (hs : ¬ 0 < s) : f = (g : Int) := by
  have : s = 0 := by omega
  subst this
  rw [Int.gcd_zero_right] at h3
  omega
theorem gcd_pos (t : Int) {b : Int} (hb : 0 < b) : (0 : Int) < (Int.gcd t b : Int) := by
  have := Int.gcd_pos_of_ne_zero_right t (b := b) (by omega)
  omega
theorem gcd_bits (t : Int) {b : Int} {n : Nat} (hb : 0 < b) (h : intBits b ≤ n) : intBits (Int.gcd t b : Int) ≤ n := by
  have := gcd_pos t hb
  have := Int.gcd_le_right t hb
  exact bits_of_natAbs_le (by omega) h
theorem num_eq {t b : Int} (hb : 0 < b) : t.fdiv (Int.gcd t b) = (Rat.divInt t b).num := by
  have := gcd_pos t hb
  rw [Rat.num_divInt, Int.sign_eq_one_of_pos hb, Int.one_mul, Int.gcd_comm, Int.fdiv_eq_ediv_of_nonneg _ (by omega)]
theorem den_eq {t b : Int} (hb : 0 < b) : b.fdiv (Int.gcd t b) = ((Rat.divInt t b).den : Int) := by
  have := gcd_pos t hb
  rw [Rat.den_divInt, if_neg (by omega), Int.gcd_comm, Int.fdiv_eq_ediv_of_nonneg _ (by omega)]
  rw [Int.natCast_ediv]
  congr 1
  omega
theorem log2_of_bits {b : Int} {n : Nat} (h : intBits b ≤ n) (hn : n ≤ 8000) : b.natAbs.log2 < 9000 := by
  have h1 := lt_pow_of_bits h hn
  by_cases h0 : b.natAbs = 0
  · rw [h0]; decide
  · have h2 := (Nat.log2_lt h0).mpr h1
    omega
theorem bits_lt {a b : Int} {n : Nat} (h0 : 0 ≤ a) (h1 : a ≤ b) (h : intBits b ≤ n) : intBits a ≤ n :=
  bits_of_natAbs_le (by omega) h

/-- the tuple's two ints are those of a fraction -/
def RatIs (p q : Int) (P : Rat) : Prop := p = P.num ∧ q = (P.den : Int)
theorem ratIs_self (P : Rat) : RatIs P.num P.den P := ⟨rfl, rfl⟩
theorem ratIs_int (h : Int) : RatIs h 1 (h : Rat) := ⟨rfl, rfl⟩
theorem RatIs.pos {p q : Int} {P : Rat} (h : RatIs p q P) : 0 < q := by
  have := P.den_pos
  have := h.2
  omega
theorem RatIs.val {p q : Int} {P : Rat} (h : RatIs p q P) : P = Rat.divInt p q := by
  rw [h.1, h.2, Rat.num_divInt_den]
theorem RatIs.mul {p q p' q' : Int} {P Q : Rat} (h : RatIs p q P) (h' : RatIs p' q' Q) : Rat.divInt (p * p') (q * q') = P * Q := by
  rw [h.val, h'.val, Rat.divInt_mul_divInt]
theorem RatIs.add {p q p' q' : Int} {P Q : Rat} (h : RatIs p q P) (h' : RatIs p' q' Q) : Rat.divInt (p * q' + p' * q) (q * q') = P + Q := by
  have h1 := h.pos
  have h2 := h'.pos
  rw [h.val, h'.val, Rat.divInt_add_divInt _ _ (by omega) (by omega)]
theorem RatIs.sub {p q p' q' : Int} {P Q : Rat} (h : RatIs p q P) (h' : RatIs p' q' Q) : Rat.divInt (p * q' - p' * q) (q * q') = P - Q := by
  have h1 := h.pos
  have h2 := h'.pos
  rw [h.val, h'.val, Rat.divInt_sub_divInt _ _ (by omega) (by omega)]
theorem RatIs.neg {p q : Int} {P : Rat} (h : RatIs p q P) : RatIs (-p) q (-P) := ⟨by rw [h.1]; rfl, by rw [h.2]; rfl⟩
theorem RatIs.pos2 {p q p' q' : Int} {P Q : Rat} (h : RatIs p q P) (h' : RatIs p' q' Q) : 0 < q * q' := Int.mul_pos h.pos h'.pos

theorem bits_dnum {t b : Int} {n : Nat} (hb : 0 < b) (h : intBits t ≤ n) : intBits (Rat.divInt t b).num ≤ n := by
  rw [← num_eq hb]; exact bits_fdiv h
theorem bits_dden {t b : Int} {n : Nat} (hb : 0 < b) (h : intBits b ≤ n) : intBits ((Rat.divInt t b).den : Int) ≤ n := by
  rw [← den_eq hb]; exact bits_fdiv h
theorem bits_mnum {P Q : Rat} {m n : Nat} (h : intBits P.num ≤ m) (h' : intBits Q.num ≤ n) : intBits (P * Q).num ≤ m + n := by
  rw [← (ratIs_self P).mul (ratIs_self Q)]
  exact bits_dnum ((ratIs_self P).pos2 (ratIs_self Q)) (bits_mul h h')
theorem bits_mden {P Q : Rat} {m n : Nat} (h : intBits (P.den : Int) ≤ m) (h' : intBits (Q.den : Int) ≤ n) : intBits ((P * Q).den : Int) ≤ m + n := by
  rw [← (ratIs_self P).mul (ratIs_self Q)]
  exact bits_dden ((ratIs_self P).pos2 (ratIs_self Q)) (bits_mul h h')
theorem bits_anum {P Q : Rat} {m n k l : Nat} (h : intBits P.num ≤ m) (h' : intBits (Q.den : Int) ≤ n) (h'' : intBits Q.num ≤ k) (h''' : intBits (P.den : Int) ≤ l) : intBits (P + Q).num ≤ max (m + n) (k + l) + 1 := by
  rw [← (ratIs_self P).add (ratIs_self Q)]
  exact bits_dnum ((ratIs_self P).pos2 (ratIs_self Q)) (bits_add (bits_mul h h') (bits_mul h'' h'''))
theorem bits_aden {P Q : Rat} {m n : Nat} (h : intBits (P.den : Int) ≤ m) (h' : intBits (Q.den : Int) ≤ n) : intBits ((P + Q).den : Int) ≤ m + n := by
  rw [← (ratIs_self P).add (ratIs_self Q)]
  exact bits_dden ((ratIs_self P).pos2 (ratIs_self Q)) (bits_mul h h')
theorem bits_snum {P Q : Rat} {m n k l : Nat} (h : intBits P.num ≤ m) (h' : intBits (Q.den : Int) ≤ n) (h'' : intBits Q.num ≤ k) (h''' : intBits (P.den : Int) ≤ l) : intBits (P - Q).num ≤ max (m + n) (k + l) + 1 := by
  rw [← (ratIs_self P).sub (ratIs_self Q)]
  exact bits_dnum ((ratIs_self P).pos2 (ratIs_self Q)) (bits_sub (bits_mul h h') (bits_mul h'' h'''))
theorem bits_sden {P Q : Rat} {m n : Nat} (h : intBits (P.den : Int) ≤ m) (h' : intBits (Q.den : Int) ≤ n) : intBits ((P - Q).den : Int) ≤ m + n := by
  rw [← (ratIs_self P).sub (ratIs_self Q)]
  exact bits_dden ((ratIs_self P).pos2 (ratIs_self Q)) (bits_mul h h')
theorem bits_nnum {P : Rat} {n : Nat} (h : intBits P.num ≤ n) : intBits (-P).num ≤ n := bits_neg h
theorem bits_nden {P : Rat} {n : Nat} (h : intBits (P.den : Int) ≤ n) : intBits ((-P).den : Int) ≤ n := h

/-- root_floor -/
theorem fdiv2 (a : Int) : a.fdiv 2 = a / 2 := Int.fdiv_eq_ediv_of_nonneg _ (by decide)
theorem root_a0 {n : Int} (h0 : 0 < n) : 1 ≤ (1 : Int) ∧ (1 : Int) ≤ 2 * n := by omega
theorem root_a1 {n f : Int} (h1 : 1 ≤ f) (h : f * f ≤ n) : 1 ≤ f * 2 ∧ f * 2 ≤ 2 * n := by
  have : f ≤ f * f := by
    have := Int.mul_le_mul_of_nonneg_left h1 (show 0 ≤ f by omega)
    omega
  omega
theorem root_am {n f : Int} (h1 : 1 ≤ f) (h : f * f ≤ n) : (2 * n + 1 - f * 2).toNat < (2 * n + 1 - f).toNat := by
  have := root_a1 h1 h
  omega
theorem sq_lt {n f : Int} (h1 : 1 ≤ f) (h : ¬ f * f ≤ n) : n < (f + 1) * (f + 1) := by
  have : (f + 1) * (f + 1) = f * f + 2 * f + 1 := by grind
  omega
theorem fdiv_low {n f : Int} (h1 : 1 ≤ f) : n.fdiv f * f ≤ n ∧ n < (n.fdiv f + 1) * f := by
  have h := fdiv_fmod_facts n f
  have h2 := h.2.2.1 (by omega)
  have h3 : (n.fdiv f + 1) * f = n.fdiv f * f + f := by grind
  have h4 := h.1
  omega
theorem newton {n f : Int} (h0 : 0 < n) (h1 : 1 ≤ f) :
    1 ≤ (f + n.fdiv f).fdiv 2 ∧ n < ((f + n.fdiv f).fdiv 2 + 1) * ((f + n.fdiv f).fdiv 2 + 1) := by
  have hl := fdiv_low (n := n) h1
  have hq : 0 ≤ n.fdiv f := Int.fdiv_nonneg (by omega) (by omega)
  generalize hqq : n.fdiv f = q at *
  have hs : 2 ≤ f + q := by
    rcases (show f = 1 ∨ 2 ≤ f by omega) with e | e
    · subst e
      have : (q + 1) * 1 = q + 1 := by grind
      omega
    · omega
  rw [fdiv2]
  refine ⟨by omega, ?_⟩
  generalize hl' : (f + q) / 2 = l
  have h2 : f + q ≤ 2 * l + 1 := by omega
  have h3 : 0 ≤ f + q + 1 := by omega
  have h4 : (f + q + 1) * (f + q + 1) ≤ (2 * l + 2) * (2 * l + 2) := Int.mul_le_mul (by omega) (by omega) (by omega) (by omega)
  have h5 : (f + q + 1) * (f + q + 1) = (f - (q + 1)) * (f - (q + 1)) + 4 * ((q + 1) * f) := by grind
  have h6 : 0 ≤ (f - (q + 1)) * (f - (q + 1)) := by
    rcases (show 0 ≤ f - (q + 1) ∨ f - (q + 1) ≤ 0 by omega) with e | e
    · exact Int.mul_nonneg e e
    · exact Int.mul_nonneg_of_nonpos_of_nonpos e e
  have h7 : (2 * l + 2) * (2 * l + 2) = 4 * ((l + 1) * (l + 1)) := by grind
  omega
theorem newton_end {n f : Int} (h0 : 0 < n) (h1 : 1 ≤ f) (h : ¬ (f + n.fdiv f).fdiv 2 < f) : f * f ≤ n := by
  have hl := fdiv_low (n := n) h1
  rw [fdiv2] at h
  have : f ≤ n.fdiv f := by omega
  have := Int.mul_le_mul_of_nonneg_right this (show 0 ≤ f by omega)
  omega
-- MATH END
abbrev Led := List (Addr × Obj)
abbrev Cl (w : World) (mean : ExcName → Option Value) (mg mb : Str → Option Value) (f : Addr) (vs : List Value) (news : Led) (n : Nat)
    (R : Heap → Addr → (Str → Option Value) → Shared → (Value → Shared → Prop) → Prop) : Prop :=
  ∀ (dp un : Nat) (gd : Option (List Code)) (cn : Str) (cs : Scope) (a : Addr) (ccd : Value) (cl : List (Str × Addr)) (outer : List Env) (A₀ : Around) (base h₀ : Heap) (L : Addr) (m : Str → Option Value) (s : Shared) (Q E : Value → Shared → Prop),
    Below A₀ base outer h₀ → Fr h₀ L s.heap m → (hd.heap_39 w.params).In h₀ → News h₀ L s.heap news →
    Top hd.view_39 (looseW hd.view_39 [Str.ofString "fraction", Str.ofString "TURN_PARTS"]) mean mg mb h₀ → cs.kind = .function →
    dp + n < recursionLimit → un + 8 * n < cLine → R h₀ L m s Q →
    wpAny (model Challenge.rw_qz0058_01.row.prog w) (ktrTop dp un gd cn cs L a ccd cl outer) (call (.ref f) vs) Q E s

abbrev RInt (x : Int) (news : Led) : Heap → Addr → (Str → Option Value) → Shared → (Value → Shared → Prop) → Prop :=
  fun h₀ L m s Q => ∀ (t : Tok) (h' : Heap) (tk' : Nat), Fr h₀ L h' m → News h₀ L h' news → Q (.int x t) { s with heap := h', toks := tk' }



abbrev tobj (p q : Int) (t1 t2 : Tok) (c : Nat) : Obj := { cls := .type "tuple", data := .seq #[.int p t1, .int q t2] c }
abbrev RTup (p q : Int) (news : Led) : Heap → Addr → (Str → Option Value) → Shared → (Value → Shared → Prop) → Prop :=
  fun h₀ L m s Q => ∀ (D : Addr) (t1 t2 : Tok) (c : Nat) (h' : Heap) (tk' : Nat), Fr h₀ L h' m →
    News h₀ L h' ((D, ({ cls := .type "tuple", data := .seq #[.int p t1, .int q t2] c } : Obj)) :: news) → (∀ x ∈ news, x.1 < D) → Q (.ref D) { s with heap := h', toks := tk' }

theorem Cl.use {w : World} {mean : ExcName → Option Value} {mg mb : Str → Option Value} {f : Addr} {vs : List Value} {news : Led} {n : Nat}
    {R : Heap → Addr → (Str → Option Value) → Shared → (Value → Shared → Prop) → Prop} (C : Cl w mean mg mb f vs news n R)
    {dp un : Nat} {gd : Option (List Code)} {cn : Str} {cs : Scope} {a : Addr} {ccd : Value} {cl : List (Str × Addr)} {outer : List Env} {A₀ : Around} {base h₀ : Heap} {L : Addr} {m : Str → Option Value} {s : Shared} {Q E : Value → Shared → Prop}
    (B : Below A₀ base outer h₀) (F : Fr h₀ L s.heap m) (X : (hd.heap_39 w.params).In h₀) (N : News h₀ L s.heap news)
    (T : Top hd.view_39 (looseW hd.view_39 [Str.ofString "fraction", Str.ofString "TURN_PARTS"]) mean mg mb h₀) (hk : cs.kind = .function)
    (hd : dp + n < recursionLimit) (hu : un + 8 * n < cLine) (r : R h₀ L m s Q) :
    wpAny (model Challenge.rw_qz0058_01.row.prog w) (ktrTop dp un gd cn cs L a ccd cl outer) (call (.ref f) vs) Q E s :=
  C _ _ _ _ _ _ _ _ _ _ _ _ _ _ _ _ _ B F X N T hk hd hu r

theorem ret_int {h₀ h' : Heap} {L : Addr} {m : Str → Option Value} {news news' : Led} {s : Shared} {Q : Value → Shared → Prop} {x y : Int} {t : Tok} {tk' : Nat}
    (hret : RInt x news h₀ L m s Q) (e : y = x) (F : Fr h₀ L h' m) (N : News h₀ L h' news') (hs : ∀ p ∈ news, p ∈ news') : Q (.int y t) { s with heap := h', toks := tk' } := by
  subst e
  exact hret t h' tk' F (fun p hp => N p (hs p hp))
theorem ret_tup {h₀ h' : Heap} {L D : Addr} {m : Str → Option Value} {news news' : Led} {s : Shared} {Q : Value → Shared → Prop} {p q p' q' : Int} {t1 t2 : Tok} {c : Nat} {tk' : Nat}
    (hret : RTup p q news h₀ L m s Q) (e : p' = p) (e' : q' = q) (F : Fr h₀ L h' m) (N : News h₀ L h' news') (hn : (D, ({ cls := .type "tuple", data := .seq #[.int p' t1, .int q' t2] c } : Obj)) ∈ news') (hs : ∀ p ∈ news, p ∈ news') (hl : ∀ x ∈ news, x.1 < D) : Q (.ref D) { s with heap := h', toks := tk' } := by
  subst e; subst e'
  exact hret D t1 t2 c h' tk' F (fun p hp => by
    rcases List.mem_cons.mp hp with rfl | hp
    · exact N _ hn
    · exact N p (hs p hp)) hl


theorem fdiv_k {prog : Program} {w : World} {A : Around} {E : Value → Shared → Prop} {s : Shared} {a b : Int} {t u : Tok} {Q : Value → Shared → Prop} {n : Nat} (hb : b ≠ 0) (hz : intBits b ≤ n) (hn : n ≤ 8000)
    (h : Q (.int (a.fdiv b) s.toks) { s with toks := s.toks + 1 }) : wpAny (model prog w) A (binaryOp .FloorDiv (.int a t) (.int b u)) Q E s :=
  floordiv_int hb h (Or.inl (PyProof.noPylong_of_log2 (log2_of_bits hz hn)))

abbrev RIntE (S : Int → Prop) (news : Led) : Heap → Addr → (Str → Option Value) → Shared → (Value → Shared → Prop) → Prop :=
  fun h₀ L m s Q => ∀ (r : Int) (t : Tok) (h' : Heap) (tk' : Nat), S r → Fr h₀ L h' m → News h₀ L h' news → Q (.int r t) { s with heap := h', toks := tk' }
theorem ret_intE {h₀ h' : Heap} {L : Addr} {m : Str → Option Value} {news news' : Led} {s : Shared} {Q : Value → Shared → Prop} {S : Int → Prop} {y : Int} {t : Tok} {tk' : Nat}
    (hret : RIntE S news h₀ L m s Q) (e : S y) (F : Fr h₀ L h' m) (N : News h₀ L h' news') (hs : ∀ p ∈ news, p ∈ news') : Q (.int y t) { s with heap := h', toks := tk' } :=
  hret y t h' tk' e F (fun p hp => N p (hs p hp))
abbrev RBool (x : Bool) (news : Led) : Heap → Addr → (Str → Option Value) → Shared → (Value → Shared → Prop) → Prop :=
  fun h₀ L m s Q => ∀ (h' : Heap) (tk' : Nat), Fr h₀ L h' m → News h₀ L h' news → Q (.bool x) { s with heap := h', toks := tk' }
theorem ret_bool {h₀ h' : Heap} {L : Addr} {m : Str → Option Value} {news news' : Led} {s : Shared} {Q : Value → Shared → Prop} {x y : Bool} {tk' : Nat}
    (hret : RBool x news h₀ L m s Q) (e : y = x) (F : Fr h₀ L h' m) (N : News h₀ L h' news') (hs : ∀ p ∈ news, p ∈ news') : Q (.bool y) { s with heap := h', toks := tk' } := by
  subst e
  exact hret h' tk' F (fun p hp => N p (hs p hp))
theorem sq_nn (x : Int) : 0 ≤ x * x := by
  rcases (show 0 ≤ x ∨ x ≤ 0 by omega) with h | h
  · exact Int.mul_nonneg h h
  · exact Int.mul_nonneg_of_nonpos_of_nonpos h h
theorem sq2_nn (x y : Int) : 0 ≤ x * x + y * y := Int.add_nonneg (sq_nn x) (sq_nn y)
theorem sqp_nn (x y : Int) : 0 ≤ (x * x + y * y) * 65536 * 65536 := Int.mul_nonneg (Int.mul_nonneg (sq2_nn x y) (by decide)) (by decide)
theorem sq2_pos {x y : Int} (h : ¬ (x = 0 ∧ y = 0)) : 0 < x * x + y * y := by
  have h1 := sq_nn x
  have h2 := sq_nn y
  rcases (show x ≠ 0 ∨ y ≠ 0 by omega) with e | e
  · have : x * x ≠ 0 := by simp [e]
    omega
  · have : y * y ≠ 0 := by simp [e]
    omega
local macro_rules | `(tactic| k_room) => `(tactic| ktr_room)
local macro_rules | `(tactic| bits_by_make) => `(tactic| k_extra "bbm")
local macro_rules | `(tactic| cell_enter) => `(tactic| k_extra "enter")
local macro_rules | `(tactic| walk_at "exec Raise some none") => `(tactic| (exfalso; omega))
local macro_rules | `(tactic| walk_at "binaryOp FloorDiv int int") => `(tactic| k_extra "fdiv")
local macro_rules | `(tactic| k_mem) => `(tactic| k_extra "mem")

local macro_rules | `(tactic| walk_at "execs nil") => `(tactic| dsimp only)
local macro_rules | `(tactic| walk_at "execs cons") => `(tactic| dsimp only)
local macro_rules | `(tactic| walk_at "isTrue BoolOp") => `(tactic| dsimp only)
local macro_rules | `(tactic| walk_at "subscriptTail") => `(tactic| k_extra "subT")
local macro_rules | `(tactic| walk_at "call ref") => `(tactic| k_extra "cc")
set_option maxHeartbeats 8000000 in
theorem gcd_c (w : World) (mean : ExcName → Option Value) (mg mb : Str → Option Value) (news : Led) (x y : Int) (tx ty : Tok) (hy : 0 ≤ y) :
    Cl w mean mg mb 60 [.int x tx, .int y ty] news 1 (RInt (Int.gcd x y) news) := by
  unfold Cl RInt
  k_fill
  intro dp un gd cn cs a ccd cl outer A₀ base h₀ L m s Q E B F X N T hk hdp hun hret
  refine wpAny_call ?_
  k_with_none
  (k_with "bbm" => (first
  | with_reducible assumption
  | ((with_reducible apply bits_mnum) <;> bits_by_make)
  | ((with_reducible apply bits_mden) <;> bits_by_make)
  | ((with_reducible apply bits_anum) <;> bits_by_make)
  | ((with_reducible apply bits_aden) <;> bits_by_make)
  | ((with_reducible apply bits_snum) <;> bits_by_make)
  | ((with_reducible apply bits_sden) <;> bits_by_make)
  | ((with_reducible apply bits_nnum) <;> bits_by_make)
  | ((with_reducible apply bits_nden) <;> bits_by_make)
  | fail "bits"))
  (k_with "enter" => ((refine' code_def ?k1 ?k2 ?k3 ?k4 ?k5 ?kA ?kF ?kK ?k6 ?k7 ?k8 ?k9 ?kB ?_ ?c2 ?c3 ?c4 ?c5; (case kA => exact rfl); (case kF => exact rfl); (case kK => assumption); (case k1 => k_asm); (case k2 => k_asm); (case k3 => k_asm); (case k4 => k_asm); (case k5 => k_asm); (case k6 => k_is); (case k7 => k_is); (case k8 => k_extra "room"); (case k9 => first | exact BindsTo.of_eq rfl | exact binds_K (by k_in) rfl (by k_is) rfl rfl rfl); (case c5 => decide); (case kB => exact locs rfl); (case c2 => exact rfl); (case c3 => exact rfl); (case c4 => exact rfl); k_whole; intro g' L' h' FG' F' N' B' X' T'; (try dsimp only); (try k_lift B'); (try k_fold))))
  (k_with "room" => first
    | ((try simp only [depth_under_make, depth_under_kw, depth_in1, depth_deeper, depth_caller]); decide)
    | ((try simp only [depth_under_make, depth_under_kw, depth_in1, depth_deeper, depth_caller]); (try dsimp only [ktrTop]); refine Nat.lt_of_le_of_lt ?_ hdp; (try simp only [Nat.add_assoc]); exact Nat.add_le_add_left (by decide) _)
    | ktr_room)
  (k_with "units" => first
    | ((simp only [units_under_make, units_in1, units_deeper, Around.mark_units, units_caller]); (try dsimp only [ktrTop]); refine Nat.lt_of_le_of_lt ?_ hun; (try simp only [Nat.add_assoc]); exact Nat.add_le_add_left (by decide) _)
    | ((simp only [units_under_make, units_in1, units_deeper, Around.mark_units, units_caller]); rw [cLine_is]; decide)
    | ktr_units)
  (k_with "fdiv" => (k_dflt (refine' fdiv_k ?fa ?fb ?fc ?_; (case fa => omega); (case fb => bits_by_make); (case fc => decide); k_whole)))
  (k_with "subT" => (k_here; (with_reducible show wpAny _ _ (subscriptTail _ _ (Value.ref _) (Value.int _ _)) _ _ _); k_dflt (refine' item_tupleT ?t ?a ?b ?c ?d ?_; (case t => exact News.isTup (by k_asm) (by k_mem)); (case a => decide); (case b => decide); (case c => rfl); (case d => rfl); k_whole)))
  k_dflt cell_enter
  (k_with "exec While Compare cons nil" => k_while (fun _ f s => 0 ≤ f ∧ 0 ≤ s ∧ Int.gcd f s = Int.gcd x y) (fun _ _ s => s.toNat) "first" "second")
  (k_with "state" => first | exact gcd_st0 hy | exact gcd_st1 (by assumption) (by assumption) (by assumption))
  (k_with "measure" => exact gcd_me (by simp_all))
  k_steps
  all_goals exact ret_int hret (gcd_en (by assumption) (by assumption) (by assumption) (by assumption)) (by assumption) (by assumption) (fun p hp => .tail _ hp)

set_option maxHeartbeats 8000000 in
theorem frac_c (w : World) (mean : ExcName → Option Value) (mg mb : Str → Option Value) (news : Led) (x y : Int) (tx ty : Tok) (hy : 0 < y) {n : Nat} (hz : intBits y ≤ n) (hn : n ≤ 8000) :
    Cl w mean mg mb 68 [.int x tx, .int y ty] news 2 (RTup (Rat.divInt x y).num ((Rat.divInt x y).den : Int) news) := by
  unfold Cl RTup
  k_fill
  intro dp un gd cn cs a ccd cl outer A₀ base h₀ L m s Q E B F X N T hk hdp hun hret
  have hg := gcd_pos x hy
  have hgz : intBits (Int.gcd x y : Int) ≤ 8000 := gcd_bits x hy (Nat.le_trans hz hn)
  refine wpAny_call ?_
  k_with_none
  (k_with "bbm" => (first
  | with_reducible assumption
  | ((with_reducible apply bits_mnum) <;> bits_by_make)
  | ((with_reducible apply bits_mden) <;> bits_by_make)
  | ((with_reducible apply bits_anum) <;> bits_by_make)
  | ((with_reducible apply bits_aden) <;> bits_by_make)
  | ((with_reducible apply bits_snum) <;> bits_by_make)
  | ((with_reducible apply bits_sden) <;> bits_by_make)
  | ((with_reducible apply bits_nnum) <;> bits_by_make)
  | ((with_reducible apply bits_nden) <;> bits_by_make)
  | fail "bits"))
  (k_with "enter" => ((refine' code_def ?k1 ?k2 ?k3 ?k4 ?k5 ?kA ?kF ?kK ?k6 ?k7 ?k8 ?k9 ?kB ?_ ?c2 ?c3 ?c4 ?c5; (case kA => exact rfl); (case kF => exact rfl); (case kK => assumption); (case k1 => k_asm); (case k2 => k_asm); (case k3 => k_asm); (case k4 => k_asm); (case k5 => k_asm); (case k6 => k_is); (case k7 => k_is); (case k8 => k_extra "room"); (case k9 => first | exact BindsTo.of_eq rfl | exact binds_K (by k_in) rfl (by k_is) rfl rfl rfl); (case c5 => decide); (case kB => exact locs rfl); (case c2 => exact rfl); (case c3 => exact rfl); (case c4 => exact rfl); k_whole; intro g' L' h' FG' F' N' B' X' T'; (try dsimp only); (try k_lift B'); (try k_fold))))
  (k_with "room" => first
    | ((try simp only [depth_under_make, depth_under_kw, depth_in1, depth_deeper, depth_caller]); decide)
    | ((try simp only [depth_under_make, depth_under_kw, depth_in1, depth_deeper, depth_caller]); (try dsimp only [ktrTop]); refine Nat.lt_of_le_of_lt ?_ hdp; (try simp only [Nat.add_assoc]); exact Nat.add_le_add_left (by decide) _)
    | ktr_room)
  (k_with "units" => first
    | ((simp only [units_under_make, units_in1, units_deeper, Around.mark_units, units_caller]); (try dsimp only [ktrTop]); refine Nat.lt_of_le_of_lt ?_ hun; (try simp only [Nat.add_assoc]); exact Nat.add_le_add_left (by decide) _)
    | ((simp only [units_under_make, units_in1, units_deeper, Around.mark_units, units_caller]); rw [cLine_is]; decide)
    | ktr_units)
  (k_with "fdiv" => (k_dflt (refine' fdiv_k ?fa ?fb ?fc ?_; (case fa => omega); (case fb => bits_by_make); (case fc => decide); k_whole)))
  (k_with "subT" => (k_here; (with_reducible show wpAny _ _ (subscriptTail _ _ (Value.ref _) (Value.int _ _)) _ _ _); k_dflt (refine' item_tupleT ?t ?a ?b ?c ?d ?_; (case t => exact News.isTup (by k_asm) (by k_mem)); (case a => decide); (case b => decide); (case c => rfl); (case d => rfl); k_whole)))
  (k_with "cc" => (k_here; (with_reducible show wpAny _ _ (call (Value.ref 60) _) _ _ _); k_dflt (
   refine' Cl.use (gcd_c _ _ _ _ _ _ _ _ _ ?kp) ?k1 ?k2 ?k3 ?k4 ?k5 ?kK ?kd ?ku ?_;
   (case k1 => k_asm); (case k2 => k_asm); (case k3 => k_asm); (case k4 => k_asm); (case k5 => k_asm); (case kK => first | exact rfl | assumption);
   (case kp => first | assumption | omega); (case kd => k_extra "room"); (case ku => k_extra "units"); intro t9 h9 tk9 F9 N9; (try dsimp only); (try k_fold))))
  k_dflt cell_enter
  k_steps
  all_goals exact ret_tup hret (num_eq hy) (den_eq hy) (by assumption) (by assumption) (.head _) (fun p hp => .tail _ hp) (by assumption)
set_option maxHeartbeats 8000000 in
theorem times_c (w : World) (mean : ExcName → Option Value) (mg mb : Str → Option Value) (news : Led) {x y : Addr} {p q p' q' : Int} {P Q' : Rat} {t1 t2 t3 t4 : Tok} {c c' : Nat}
    (hx : (x, ({ cls := .type "tuple", data := .seq #[.int p t1, .int q t2] c } : Obj)) ∈ news) (hy : (y, ({ cls := .type "tuple", data := .seq #[.int p' t3, .int q' t4] c' } : Obj)) ∈ news)
    (hP : RatIs p q P) (hQ : RatIs p' q' Q') {n1 n2 n3 n4 : Nat} (hz1 : intBits p ≤ n1) (hz2 : intBits q ≤ n2) (hz3 : intBits p' ≤ n3) (hz4 : intBits q' ≤ n4) (hn : n1 ≤ 4000 ∧ n2 ≤ 4000 ∧ n3 ≤ 4000 ∧ n4 ≤ 4000) :
    Cl w mean mg mb 89 [.ref x, .ref y] news 3 (RTup (P * Q').num ((P * Q').den : Int) news) := by
  unfold Cl RTup
  k_fill
  intro dp un gd cn cs a ccd cl outer A₀ base h₀ L m s Q E B F X N T hk hdp hun hret
  have hpos := RatIs.pos2 hP hQ
  have he := RatIs.mul hP hQ
  replace hz1 := Nat.le_trans hz1 hn.1
  replace hz2 := Nat.le_trans hz2 hn.2.1
  replace hz3 := Nat.le_trans hz3 hn.2.2.1
  replace hz4 := Nat.le_trans hz4 hn.2.2.2
  refine wpAny_call ?_
  k_with_none
  (k_with "bbm" => (first
  | with_reducible assumption
  | ((with_reducible apply bits_mnum) <;> bits_by_make)
  | ((with_reducible apply bits_mden) <;> bits_by_make)
  | ((with_reducible apply bits_anum) <;> bits_by_make)
  | ((with_reducible apply bits_aden) <;> bits_by_make)
  | ((with_reducible apply bits_snum) <;> bits_by_make)
  | ((with_reducible apply bits_sden) <;> bits_by_make)
  | ((with_reducible apply bits_nnum) <;> bits_by_make)
  | ((with_reducible apply bits_nden) <;> bits_by_make)
  | fail "bits"))
  (k_with "enter" => ((refine' code_def ?k1 ?k2 ?k3 ?k4 ?k5 ?kA ?kF ?kK ?k6 ?k7 ?k8 ?k9 ?kB ?_ ?c2 ?c3 ?c4 ?c5; (case kA => exact rfl); (case kF => exact rfl); (case kK => assumption); (case k1 => k_asm); (case k2 => k_asm); (case k3 => k_asm); (case k4 => k_asm); (case k5 => k_asm); (case k6 => k_is); (case k7 => k_is); (case k8 => k_extra "room"); (case k9 => first | exact BindsTo.of_eq rfl | exact binds_K (by k_in) rfl (by k_is) rfl rfl rfl); (case c5 => decide); (case kB => exact locs rfl); (case c2 => exact rfl); (case c3 => exact rfl); (case c4 => exact rfl); k_whole; intro g' L' h' FG' F' N' B' X' T'; (try dsimp only); (try k_lift B'); (try k_fold))))
  (k_with "room" => first
    | ((try simp only [depth_under_make, depth_under_kw, depth_in1, depth_deeper, depth_caller]); decide)
    | ((try simp only [depth_under_make, depth_under_kw, depth_in1, depth_deeper, depth_caller]); (try dsimp only [ktrTop]); refine Nat.lt_of_le_of_lt ?_ hdp; (try simp only [Nat.add_assoc]); exact Nat.add_le_add_left (by decide) _)
    | ktr_room)
  (k_with "units" => first
    | ((simp only [units_under_make, units_in1, units_deeper, Around.mark_units, units_caller]); (try dsimp only [ktrTop]); refine Nat.lt_of_le_of_lt ?_ hun; (try simp only [Nat.add_assoc]); exact Nat.add_le_add_left (by decide) _)
    | ((simp only [units_under_make, units_in1, units_deeper, Around.mark_units, units_caller]); rw [cLine_is]; decide)
    | ktr_units)
  (k_with "fdiv" => (k_dflt (refine' fdiv_k ?fa ?fb ?fc ?_; (case fa => omega); (case fb => bits_by_make); (case fc => decide); k_whole)))
  (k_with "subT" => (k_here; (with_reducible show wpAny _ _ (subscriptTail _ _ (Value.ref _) (Value.int _ _)) _ _ _); k_dflt (refine' item_tupleT ?t ?a ?b ?c ?d ?_; (case t => exact News.isTup (by k_asm) (by k_mem)); (case a => decide); (case b => decide); (case c => rfl); (case d => rfl); k_whole)))
  (k_with "cc" => (k_here; (with_reducible show wpAny _ _ (call (Value.ref 60) _) _ _ _); k_dflt (
   refine' Cl.use (gcd_c _ _ _ _ _ _ _ _ _ ?kp) ?k1 ?k2 ?k3 ?k4 ?k5 ?kK ?kd ?ku ?_;
   (case k1 => k_asm); (case k2 => k_asm); (case k3 => k_asm); (case k4 => k_asm); (case k5 => k_asm); (case kK => first | exact rfl | assumption);
   (case kp => first | assumption | omega); (case kd => k_extra "room"); (case ku => k_extra "units"); intro t9 h9 tk9 F9 N9; (try dsimp only); (try k_fold))))
  (k_with "cc" => (k_here; (with_reducible show wpAny _ _ (call (Value.ref 68) _) _ _ _); k_dflt (
   refine' Cl.use (frac_c _ _ _ _ _ _ _ _ _ ?kp ?kz ?kn) ?k1 ?k2 ?k3 ?k4 ?k5 ?kK ?kd ?ku ?_;
   (case k1 => k_asm); (case k2 => k_asm); (case k3 => k_asm); (case k4 => k_asm); (case k5 => k_asm); (case kK => first | exact rfl | assumption);
   (case kp => first | assumption | omega); (case kz => bits_by_make); (case kn => decide); (case kd => k_extra "room"); (case ku => k_extra "units"); intro D9 t9 u9 c9 h9 tk9 F9 N9 l1; (try k_lt l1); (try dsimp only); (try k_fold))))
  k_dflt cell_enter
  k_steps
  all_goals exact ret_tup hret (congrArg Rat.num he) (congrArg (fun r : Rat => (r.den : Int)) he) (by assumption) (by assumption) (.head _) (fun p hp => .tail _ hp) (by assumption)

set_option maxHeartbeats 8000000 in
theorem plus_c (w : World) (mean : ExcName → Option Value) (mg mb : Str → Option Value) (news : Led) {x y : Addr} {p q p' q' : Int} {P Q' : Rat} {t1 t2 t3 t4 : Tok} {c c' : Nat}
    (hx : (x, ({ cls := .type "tuple", data := .seq #[.int p t1, .int q t2] c } : Obj)) ∈ news) (hy : (y, ({ cls := .type "tuple", data := .seq #[.int p' t3, .int q' t4] c' } : Obj)) ∈ news)
    (hP : RatIs p q P) (hQ : RatIs p' q' Q') {n1 n2 n3 n4 : Nat} (hz1 : intBits p ≤ n1) (hz2 : intBits q ≤ n2) (hz3 : intBits p' ≤ n3) (hz4 : intBits q' ≤ n4) (hn : n1 ≤ 4000 ∧ n2 ≤ 4000 ∧ n3 ≤ 4000 ∧ n4 ≤ 4000) :
    Cl w mean mg mb 75 [.ref x, .ref y] news 3 (RTup (P + Q').num ((P + Q').den : Int) news) := by
  unfold Cl RTup
  k_fill
  intro dp un gd cn cs a ccd cl outer A₀ base h₀ L m s Q E B F X N T hk hdp hun hret
  have hpos := RatIs.pos2 hP hQ
  have he := RatIs.add hP hQ
  replace hz1 := Nat.le_trans hz1 hn.1
  replace hz2 := Nat.le_trans hz2 hn.2.1
  replace hz3 := Nat.le_trans hz3 hn.2.2.1
  replace hz4 := Nat.le_trans hz4 hn.2.2.2
  refine wpAny_call ?_
  k_with_none
  (k_with "bbm" => (first
  | with_reducible assumption
  | ((with_reducible apply bits_mnum) <;> bits_by_make)
  | ((with_reducible apply bits_mden) <;> bits_by_make)
  | ((with_reducible apply bits_anum) <;> bits_by_make)
  | ((with_reducible apply bits_aden) <;> bits_by_make)
  | ((with_reducible apply bits_snum) <;> bits_by_make)
  | ((with_reducible apply bits_sden) <;> bits_by_make)
  | ((with_reducible apply bits_nnum) <;> bits_by_make)
  | ((with_reducible apply bits_nden) <;> bits_by_make)
  | fail "bits"))
  (k_with "enter" => ((refine' code_def ?k1 ?k2 ?k3 ?k4 ?k5 ?kA ?kF ?kK ?k6 ?k7 ?k8 ?k9 ?kB ?_ ?c2 ?c3 ?c4 ?c5; (case kA => exact rfl); (case kF => exact rfl); (case kK => assumption); (case k1 => k_asm); (case k2 => k_asm); (case k3 => k_asm); (case k4 => k_asm); (case k5 => k_asm); (case k6 => k_is); (case k7 => k_is); (case k8 => k_extra "room"); (case k9 => first | exact BindsTo.of_eq rfl | exact binds_K (by k_in) rfl (by k_is) rfl rfl rfl); (case c5 => decide); (case kB => exact locs rfl); (case c2 => exact rfl); (case c3 => exact rfl); (case c4 => exact rfl); k_whole; intro g' L' h' FG' F' N' B' X' T'; (try dsimp only); (try k_lift B'); (try k_fold))))
  (k_with "room" => first
    | ((try simp only [depth_under_make, depth_under_kw, depth_in1, depth_deeper, depth_caller]); decide)
    | ((try simp only [depth_under_make, depth_under_kw, depth_in1, depth_deeper, depth_caller]); (try dsimp only [ktrTop]); refine Nat.lt_of_le_of_lt ?_ hdp; (try simp only [Nat.add_assoc]); exact Nat.add_le_add_left (by decide) _)
    | ktr_room)
  (k_with "units" => first
    | ((simp only [units_under_make, units_in1, units_deeper, Around.mark_units, units_caller]); (try dsimp only [ktrTop]); refine Nat.lt_of_le_of_lt ?_ hun; (try simp only [Nat.add_assoc]); exact Nat.add_le_add_left (by decide) _)
    | ((simp only [units_under_make, units_in1, units_deeper, Around.mark_units, units_caller]); rw [cLine_is]; decide)
    | ktr_units)
  (k_with "fdiv" => (k_dflt (refine' fdiv_k ?fa ?fb ?fc ?_; (case fa => omega); (case fb => bits_by_make); (case fc => decide); k_whole)))
  (k_with "subT" => (k_here; (with_reducible show wpAny _ _ (subscriptTail _ _ (Value.ref _) (Value.int _ _)) _ _ _); k_dflt (refine' item_tupleT ?t ?a ?b ?c ?d ?_; (case t => exact News.isTup (by k_asm) (by k_mem)); (case a => decide); (case b => decide); (case c => rfl); (case d => rfl); k_whole)))
  (k_with "cc" => (k_here; (with_reducible show wpAny _ _ (call (Value.ref 60) _) _ _ _); k_dflt (
   refine' Cl.use (gcd_c _ _ _ _ _ _ _ _ _ ?kp) ?k1 ?k2 ?k3 ?k4 ?k5 ?kK ?kd ?ku ?_;
   (case k1 => k_asm); (case k2 => k_asm); (case k3 => k_asm); (case k4 => k_asm); (case k5 => k_asm); (case kK => first | exact rfl | assumption);
   (case kp => first | assumption | omega); (case kd => k_extra "room"); (case ku => k_extra "units"); intro t9 h9 tk9 F9 N9; (try dsimp only); (try k_fold))))
  (k_with "cc" => (k_here; (with_reducible show wpAny _ _ (call (Value.ref 68) _) _ _ _); k_dflt (
   refine' Cl.use (frac_c _ _ _ _ _ _ _ _ _ ?kp ?kz ?kn) ?k1 ?k2 ?k3 ?k4 ?k5 ?kK ?kd ?ku ?_;
   (case k1 => k_asm); (case k2 => k_asm); (case k3 => k_asm); (case k4 => k_asm); (case k5 => k_asm); (case kK => first | exact rfl | assumption);
   (case kp => first | assumption | omega); (case kz => bits_by_make); (case kn => decide); (case kd => k_extra "room"); (case ku => k_extra "units"); intro D9 t9 u9 c9 h9 tk9 F9 N9 l1; (try k_lt l1); (try dsimp only); (try k_fold))))
  k_dflt cell_enter
  k_steps
  all_goals exact ret_tup hret (congrArg Rat.num he) (congrArg (fun r : Rat => (r.den : Int)) he) (by assumption) (by assumption) (.head _) (fun p hp => .tail _ hp) (by assumption)

set_option maxHeartbeats 8000000 in
theorem minus_c (w : World) (mean : ExcName → Option Value) (mg mb : Str → Option Value) (news : Led) {x y : Addr} {p q p' q' : Int} {P Q' : Rat} {t1 t2 t3 t4 : Tok} {c c' : Nat}
    (hx : (x, ({ cls := .type "tuple", data := .seq #[.int p t1, .int q t2] c } : Obj)) ∈ news) (hy : (y, ({ cls := .type "tuple", data := .seq #[.int p' t3, .int q' t4] c' } : Obj)) ∈ news)
    (hP : RatIs p q P) (hQ : RatIs p' q' Q') {n1 n2 n3 n4 : Nat} (hz1 : intBits p ≤ n1) (hz2 : intBits q ≤ n2) (hz3 : intBits p' ≤ n3) (hz4 : intBits q' ≤ n4) (hn : n1 ≤ 4000 ∧ n2 ≤ 4000 ∧ n3 ≤ 4000 ∧ n4 ≤ 4000) :
    Cl w mean mg mb 82 [.ref x, .ref y] news 3 (RTup (P - Q').num ((P - Q').den : Int) news) := by
  unfold Cl RTup
  k_fill
  intro dp un gd cn cs a ccd cl outer A₀ base h₀ L m s Q E B F X N T hk hdp hun hret
  have hpos := RatIs.pos2 hP hQ
  have he := RatIs.sub hP hQ
  replace hz1 := Nat.le_trans hz1 hn.1
  replace hz2 := Nat.le_trans hz2 hn.2.1
  replace hz3 := Nat.le_trans hz3 hn.2.2.1
  replace hz4 := Nat.le_trans hz4 hn.2.2.2
  refine wpAny_call ?_
  k_with_none
  (k_with "bbm" => (first
  | with_reducible assumption
  | ((with_reducible apply bits_mnum) <;> bits_by_make)
  | ((with_reducible apply bits_mden) <;> bits_by_make)
  | ((with_reducible apply bits_anum) <;> bits_by_make)
  | ((with_reducible apply bits_aden) <;> bits_by_make)
  | ((with_reducible apply bits_snum) <;> bits_by_make)
  | ((with_reducible apply bits_sden) <;> bits_by_make)
  | ((with_reducible apply bits_nnum) <;> bits_by_make)
  | ((with_reducible apply bits_nden) <;> bits_by_make)
  | fail "bits"))
  (k_with "enter" => ((refine' code_def ?k1 ?k2 ?k3 ?k4 ?k5 ?kA ?kF ?kK ?k6 ?k7 ?k8 ?k9 ?kB ?_ ?c2 ?c3 ?c4 ?c5; (case kA => exact rfl); (case kF => exact rfl); (case kK => assumption); (case k1 => k_asm); (case k2 => k_asm); (case k3 => k_asm); (case k4 => k_asm); (case k5 => k_asm); (case k6 => k_is); (case k7 => k_is); (case k8 => k_extra "room"); (case k9 => first | exact BindsTo.of_eq rfl | exact binds_K (by k_in) rfl (by k_is) rfl rfl rfl); (case c5 => decide); (case kB => exact locs rfl); (case c2 => exact rfl); (case c3 => exact rfl); (case c4 => exact rfl); k_whole; intro g' L' h' FG' F' N' B' X' T'; (try dsimp only); (try k_lift B'); (try k_fold))))
  (k_with "room" => first
    | ((try simp only [depth_under_make, depth_under_kw, depth_in1, depth_deeper, depth_caller]); decide)
    | ((try simp only [depth_under_make, depth_under_kw, depth_in1, depth_deeper, depth_caller]); (try dsimp only [ktrTop]); refine Nat.lt_of_le_of_lt ?_ hdp; (try simp only [Nat.add_assoc]); exact Nat.add_le_add_left (by decide) _)
    | ktr_room)
  (k_with "units" => first
    | ((simp only [units_under_make, units_in1, units_deeper, Around.mark_units, units_caller]); (try dsimp only [ktrTop]); refine Nat.lt_of_le_of_lt ?_ hun; (try simp only [Nat.add_assoc]); exact Nat.add_le_add_left (by decide) _)
    | ((simp only [units_under_make, units_in1, units_deeper, Around.mark_units, units_caller]); rw [cLine_is]; decide)
    | ktr_units)
  (k_with "fdiv" => (k_dflt (refine' fdiv_k ?fa ?fb ?fc ?_; (case fa => omega); (case fb => bits_by_make); (case fc => decide); k_whole)))
  (k_with "subT" => (k_here; (with_reducible show wpAny _ _ (subscriptTail _ _ (Value.ref _) (Value.int _ _)) _ _ _); k_dflt (refine' item_tupleT ?t ?a ?b ?c ?d ?_; (case t => exact News.isTup (by k_asm) (by k_mem)); (case a => decide); (case b => decide); (case c => rfl); (case d => rfl); k_whole)))
  (k_with "cc" => (k_here; (with_reducible show wpAny _ _ (call (Value.ref 60) _) _ _ _); k_dflt (
   refine' Cl.use (gcd_c _ _ _ _ _ _ _ _ _ ?kp) ?k1 ?k2 ?k3 ?k4 ?k5 ?kK ?kd ?ku ?_;
   (case k1 => k_asm); (case k2 => k_asm); (case k3 => k_asm); (case k4 => k_asm); (case k5 => k_asm); (case kK => first | exact rfl | assumption);
   (case kp => first | assumption | omega); (case kd => k_extra "room"); (case ku => k_extra "units"); intro t9 h9 tk9 F9 N9; (try dsimp only); (try k_fold))))
  (k_with "cc" => (k_here; (with_reducible show wpAny _ _ (call (Value.ref 68) _) _ _ _); k_dflt (
   refine' Cl.use (frac_c _ _ _ _ _ _ _ _ _ ?kp ?kz ?kn) ?k1 ?k2 ?k3 ?k4 ?k5 ?kK ?kd ?ku ?_;
   (case k1 => k_asm); (case k2 => k_asm); (case k3 => k_asm); (case k4 => k_asm); (case k5 => k_asm); (case kK => first | exact rfl | assumption);
   (case kp => first | assumption | omega); (case kz => bits_by_make); (case kn => decide); (case kd => k_extra "room"); (case ku => k_extra "units"); intro D9 t9 u9 c9 h9 tk9 F9 N9 l1; (try k_lt l1); (try dsimp only); (try k_fold))))
  k_dflt cell_enter
  k_steps
  all_goals exact ret_tup hret (congrArg Rat.num he) (congrArg (fun r : Rat => (r.den : Int)) he) (by assumption) (by assumption) (.head _) (fun p hp => .tail _ hp) (by assumption)

set_option maxHeartbeats 8000000 in
theorem neg_c (w : World) (mean : ExcName → Option Value) (mg mb : Str → Option Value) (news : Led) {x : Addr} {p q : Int} {P : Rat} {t1 t2 : Tok} {c : Nat}
    (hx : (x, ({ cls := .type "tuple", data := .seq #[.int p t1, .int q t2] c } : Obj)) ∈ news) (hP : RatIs p q P) :
    Cl w mean mg mb 96 [.ref x] news 1 (RTup (-P).num ((-P).den : Int) news) := by
  unfold Cl RTup
  k_fill
  intro dp un gd cn cs a ccd cl outer A₀ base h₀ L m s Q E B F X N T hk hdp hun hret
  have he := RatIs.neg hP
  refine wpAny_call ?_
  k_with_none
  (k_with "bbm" => (first
  | with_reducible assumption
  | ((with_reducible apply bits_mnum) <;> bits_by_make)
  | ((with_reducible apply bits_mden) <;> bits_by_make)
  | ((with_reducible apply bits_anum) <;> bits_by_make)
  | ((with_reducible apply bits_aden) <;> bits_by_make)
  | ((with_reducible apply bits_snum) <;> bits_by_make)
  | ((with_reducible apply bits_sden) <;> bits_by_make)
  | ((with_reducible apply bits_nnum) <;> bits_by_make)
  | ((with_reducible apply bits_nden) <;> bits_by_make)
  | fail "bits"))
  (k_with "enter" => ((refine' code_def ?k1 ?k2 ?k3 ?k4 ?k5 ?kA ?kF ?kK ?k6 ?k7 ?k8 ?k9 ?kB ?_ ?c2 ?c3 ?c4 ?c5; (case kA => exact rfl); (case kF => exact rfl); (case kK => assumption); (case k1 => k_asm); (case k2 => k_asm); (case k3 => k_asm); (case k4 => k_asm); (case k5 => k_asm); (case k6 => k_is); (case k7 => k_is); (case k8 => k_extra "room"); (case k9 => first | exact BindsTo.of_eq rfl | exact binds_K (by k_in) rfl (by k_is) rfl rfl rfl); (case c5 => decide); (case kB => exact locs rfl); (case c2 => exact rfl); (case c3 => exact rfl); (case c4 => exact rfl); k_whole; intro g' L' h' FG' F' N' B' X' T'; (try dsimp only); (try k_lift B'); (try k_fold))))
  (k_with "room" => first
    | ((try simp only [depth_under_make, depth_under_kw, depth_in1, depth_deeper, depth_caller]); decide)
    | ((try simp only [depth_under_make, depth_under_kw, depth_in1, depth_deeper, depth_caller]); (try dsimp only [ktrTop]); refine Nat.lt_of_le_of_lt ?_ hdp; (try simp only [Nat.add_assoc]); exact Nat.add_le_add_left (by decide) _)
    | ktr_room)
  (k_with "units" => first
    | ((simp only [units_under_make, units_in1, units_deeper, Around.mark_units, units_caller]); (try dsimp only [ktrTop]); refine Nat.lt_of_le_of_lt ?_ hun; (try simp only [Nat.add_assoc]); exact Nat.add_le_add_left (by decide) _)
    | ((simp only [units_under_make, units_in1, units_deeper, Around.mark_units, units_caller]); rw [cLine_is]; decide)
    | ktr_units)
  (k_with "fdiv" => (k_dflt (refine' fdiv_k ?fa ?fb ?fc ?_; (case fa => omega); (case fb => bits_by_make); (case fc => decide); k_whole)))
  (k_with "subT" => (k_here; (with_reducible show wpAny _ _ (subscriptTail _ _ (Value.ref _) (Value.int _ _)) _ _ _); k_dflt (refine' item_tupleT ?t ?a ?b ?c ?d ?_; (case t => exact News.isTup (by k_asm) (by k_mem)); (case a => decide); (case b => decide); (case c => rfl); (case d => rfl); k_whole)))
  (k_with "cc" => (k_here; (with_reducible show wpAny _ _ (call (Value.ref 60) _) _ _ _); k_dflt (
   refine' Cl.use (gcd_c _ _ _ _ _ _ _ _ _ ?kp) ?k1 ?k2 ?k3 ?k4 ?k5 ?kK ?kd ?ku ?_;
   (case k1 => k_asm); (case k2 => k_asm); (case k3 => k_asm); (case k4 => k_asm); (case k5 => k_asm); (case kK => first | exact rfl | assumption);
   (case kp => first | assumption | omega); (case kd => k_extra "room"); (case ku => k_extra "units"); intro t9 h9 tk9 F9 N9; (try dsimp only); (try k_fold))))
  (k_with "cc" => (k_here; (with_reducible show wpAny _ _ (call (Value.ref 68) _) _ _ _); k_dflt (
   refine' Cl.use (frac_c _ _ _ _ _ _ _ _ _ ?kp ?kz ?kn) ?k1 ?k2 ?k3 ?k4 ?k5 ?kK ?kd ?ku ?_;
   (case k1 => k_asm); (case k2 => k_asm); (case k3 => k_asm); (case k4 => k_asm); (case k5 => k_asm); (case kK => first | exact rfl | assumption);
   (case kp => first | assumption | omega); (case kz => bits_by_make); (case kn => decide); (case kd => k_extra "room"); (case ku => k_extra "units"); intro D9 t9 u9 c9 h9 tk9 F9 N9 l1; (try k_lt l1); (try dsimp only); (try k_fold))))
  k_dflt cell_enter
  k_steps
  all_goals exact ret_tup hret he.1 he.2 (by assumption) (by assumption) (.head _) (fun p hp => .tail _ hp) (by assumption)
abbrev RTupE (S : Rat → Prop) (news : Led) : Heap → Addr → (Str → Option Value) → Shared → (Value → Shared → Prop) → Prop :=
  fun h₀ L m s Q => ∀ (R : Rat), S R → RTup R.num (R.den : Int) news h₀ L m s Q
theorem Cl.mono {w : World} {mean : ExcName → Option Value} {mg mb : Str → Option Value} {f : Addr} {vs : List Value} {news : Led} {n : Nat}
    {R R' : Heap → Addr → (Str → Option Value) → Shared → (Value → Shared → Prop) → Prop} (C : Cl w mean mg mb f vs news n R) (h : ∀ h₀ L m s Q, R' h₀ L m s Q → R h₀ L m s Q) : Cl w mean mg mb f vs news n R' :=
  fun _ _ _ _ _ _ _ _ _ _ _ _ _ _ _ _ _ B F X N T hk hd hu r => C _ _ _ _ _ _ _ _ _ _ _ _ _ _ _ _ _ B F X N T hk hd hu (h _ _ _ _ _ r)
theorem frac_e (w : World) (mean : ExcName → Option Value) (mg mb : Str → Option Value) (news : Led) (x y : Int) (tx ty : Tok) (hy : 0 < y) {k n : Nat} (hx : intBits x ≤ k) (hz : intBits y ≤ n) (hn : n ≤ 8000) :
    Cl w mean mg mb 68 [.int x tx, .int y ty] news 2 (RTupE (fun R => R = Rat.divInt x y ∧ intBits R.num ≤ k ∧ intBits (R.den : Int) ≤ n) news) :=
  Cl.mono (frac_c w mean mg mb news x y tx ty hy hz hn) fun _ _ _ _ _ r => r _ ⟨rfl, bits_dnum hy hx, bits_dden hy hz⟩
theorem times_e (w : World) (mean : ExcName → Option Value) (mg mb : Str → Option Value) (news : Led) {x y : Addr} {p q p' q' : Int} {P Q' : Rat} {t1 t2 t3 t4 : Tok} {c c' : Nat}
    (hx : (x, ({ cls := .type "tuple", data := .seq #[.int p t1, .int q t2] c } : Obj)) ∈ news) (hy : (y, ({ cls := .type "tuple", data := .seq #[.int p' t3, .int q' t4] c' } : Obj)) ∈ news)
    (hP : RatIs p q P) (hQ : RatIs p' q' Q') {n1 n2 n3 n4 : Nat} (hz1 : intBits p ≤ n1) (hz2 : intBits q ≤ n2) (hz3 : intBits p' ≤ n3) (hz4 : intBits q' ≤ n4) (hn : n1 ≤ 4000 ∧ n2 ≤ 4000 ∧ n3 ≤ 4000 ∧ n4 ≤ 4000) :
    Cl w mean mg mb 89 [.ref x, .ref y] news 3 (RTupE (fun R => R = P * Q' ∧ intBits R.num ≤ n1 + n3 ∧ intBits (R.den : Int) ≤ n2 + n4) news) :=
  Cl.mono (times_c w mean mg mb news hx hy hP hQ hz1 hz2 hz3 hz4 hn) fun _ _ _ _ _ r => r _ ⟨rfl, by
    rw [hP.1] at hz1; rw [hP.2] at hz2; rw [hQ.1] at hz3; rw [hQ.2] at hz4
    exact ⟨bits_mnum hz1 hz3, bits_mden hz2 hz4⟩⟩
theorem plus_e (w : World) (mean : ExcName → Option Value) (mg mb : Str → Option Value) (news : Led) {x y : Addr} {p q p' q' : Int} {P Q' : Rat} {t1 t2 t3 t4 : Tok} {c c' : Nat}
    (hx : (x, ({ cls := .type "tuple", data := .seq #[.int p t1, .int q t2] c } : Obj)) ∈ news) (hy : (y, ({ cls := .type "tuple", data := .seq #[.int p' t3, .int q' t4] c' } : Obj)) ∈ news)
    (hP : RatIs p q P) (hQ : RatIs p' q' Q') {n1 n2 n3 n4 : Nat} (hz1 : intBits p ≤ n1) (hz2 : intBits q ≤ n2) (hz3 : intBits p' ≤ n3) (hz4 : intBits q' ≤ n4) (hn : n1 ≤ 4000 ∧ n2 ≤ 4000 ∧ n3 ≤ 4000 ∧ n4 ≤ 4000) :
    Cl w mean mg mb 75 [.ref x, .ref y] news 3 (RTupE (fun R => R = P + Q' ∧ intBits R.num ≤ max (n1 + n4) (n3 + n2) + 1 ∧ intBits (R.den : Int) ≤ n2 + n4) news) :=
  Cl.mono (plus_c w mean mg mb news hx hy hP hQ hz1 hz2 hz3 hz4 hn) fun _ _ _ _ _ r => r _ ⟨rfl, by
    rw [hP.1] at hz1; rw [hP.2] at hz2; rw [hQ.1] at hz3; rw [hQ.2] at hz4
    exact ⟨bits_anum hz1 hz4 hz3 hz2, bits_aden hz2 hz4⟩⟩
theorem minus_e (w : World) (mean : ExcName → Option Value) (mg mb : Str → Option Value) (news : Led) {x y : Addr} {p q p' q' : Int} {P Q' : Rat} {t1 t2 t3 t4 : Tok} {c c' : Nat}
    (hx : (x, ({ cls := .type "tuple", data := .seq #[.int p t1, .int q t2] c } : Obj)) ∈ news) (hy : (y, ({ cls := .type "tuple", data := .seq #[.int p' t3, .int q' t4] c' } : Obj)) ∈ news)
    (hP : RatIs p q P) (hQ : RatIs p' q' Q') {n1 n2 n3 n4 : Nat} (hz1 : intBits p ≤ n1) (hz2 : intBits q ≤ n2) (hz3 : intBits p' ≤ n3) (hz4 : intBits q' ≤ n4) (hn : n1 ≤ 4000 ∧ n2 ≤ 4000 ∧ n3 ≤ 4000 ∧ n4 ≤ 4000) :
    Cl w mean mg mb 82 [.ref x, .ref y] news 3 (RTupE (fun R => R = P - Q' ∧ intBits R.num ≤ max (n1 + n4) (n3 + n2) + 1 ∧ intBits (R.den : Int) ≤ n2 + n4) news) :=
  Cl.mono (minus_c w mean mg mb news hx hy hP hQ hz1 hz2 hz3 hz4 hn) fun _ _ _ _ _ r => r _ ⟨rfl, by
    rw [hP.1] at hz1; rw [hP.2] at hz2; rw [hQ.1] at hz3; rw [hQ.2] at hz4
    exact ⟨bits_snum hz1 hz4 hz3 hz2, bits_sden hz2 hz4⟩⟩
theorem neg_e (w : World) (mean : ExcName → Option Value) (mg mb : Str → Option Value) (news : Led) {x : Addr} {p q : Int} {P : Rat} {t1 t2 : Tok} {c : Nat}
    (hx : (x, ({ cls := .type "tuple", data := .seq #[.int p t1, .int q t2] c } : Obj)) ∈ news) (hP : RatIs p q P) {n1 n2 : Nat} (hz1 : intBits p ≤ n1) (hz2 : intBits q ≤ n2) :
    Cl w mean mg mb 96 [.ref x] news 1 (RTupE (fun R => R = -P ∧ intBits R.num ≤ n1 ∧ intBits (R.den : Int) ≤ n2) news) :=
  Cl.mono (neg_c w mean mg mb news hx hP) fun _ _ _ _ _ r => r _ ⟨rfl, by
    rw [hP.1] at hz1; rw [hP.2] at hz2
    exact ⟨bits_nnum hz1, bits_nden hz2⟩⟩
/-- r is the root of n, rounded down -/
def IsRoot (n r : Int) : Prop := 0 ≤ r ∧ r * r ≤ n ∧ n < (r + 1) * (r + 1)
theorem root_s0 {n : Int} (h0 : 0 ≤ n) (h1 : ¬ n = 0) : 1 ≤ (1 : Int) ∧ (1 : Int) ≤ 2 * n := by omega
theorem root_s1 {n f : Int} (h1 : 1 ≤ f) (h : f * f ≤ n) : 1 ≤ f * 2 ∧ f * 2 ≤ 2 * n := root_a1 h1 h
theorem root_t0 {n f : Int} (h0 : 0 ≤ n) (h1 : ¬ n = 0) (h2 : 1 ≤ f) (h3 : f ≤ 2 * n) (h : ¬ f * f ≤ n) :
    1 ≤ f ∧ f ≤ 2 * n ∧ n < (f + 1) * (f + 1) ∧ 1 ≤ (f + n.fdiv f).fdiv 2 ∧ (f + n.fdiv f).fdiv 2 = (f + n.fdiv f).fdiv 2 :=
  ⟨h2, h3, sq_lt h2 h, (newton (n := n) (by omega) h2).1, rfl⟩
theorem root_t1 {n f l : Int} (h3 : l = (f + n.fdiv f).fdiv 2) (h0 : 0 ≤ n) (h1 : ¬ n = 0) (h2 : 1 ≤ f) (h5 : f ≤ 2 * n) (h6 : 1 ≤ l) (h4 : l < f) :
    1 ≤ l ∧ l ≤ 2 * n ∧ n < (l + 1) * (l + 1) ∧ 1 ≤ (l + n.fdiv l).fdiv 2 ∧ (l + n.fdiv l).fdiv 2 = (l + n.fdiv l).fdiv 2 := by
  have := newton (n := n) (by omega) h2
  rw [← h3] at this
  exact ⟨this.1, by omega, this.2, (newton (n := n) (by omega) h6).1, rfl⟩
theorem root_e0 {n : Int} (h : n = 0) : IsRoot n 0 := by subst h; exact ⟨by decide, by decide, by decide⟩
theorem root_e1 {n f l : Int} (h4 : l = (f + n.fdiv f).fdiv 2) (h0 : 0 ≤ n) (h1 : ¬ n = 0) (h2 : 1 ≤ f) (h3 : n < (f + 1) * (f + 1)) (h : ¬ l < f) : IsRoot n f :=
  ⟨by omega, newton_end (by omega) h2 (by rw [← h4]; exact h), h3⟩
theorem root_bits {n f : Int} {k : Nat} (hz : intBits n ≤ k) (h1 : 1 ≤ f) (h2 : f ≤ 2 * n) : intBits f ≤ k + 2 :=
  bits_lt (by omega) h2 (Nat.le_trans (bits_mul (show intBits 2 ≤ 2 by decide) hz) (by omega))
theorem root_pos {n r : Int} (h : IsRoot n r) (hn : 0 < n) : 0 < r := by
  obtain ⟨h1, h2, h3⟩ := h
  rcases (show r = 0 ∨ 0 < r by omega) with e | e
  · subst e
    omega
  · exact e
theorem root_le {n r : Int} (h : IsRoot n r) : r ≤ n := by
  obtain ⟨h1, h2, h3⟩ := h
  rcases (show r = 0 ∨ 1 ≤ r by omega) with e | e
  · subst e
    omega
  · have := Int.mul_le_mul_of_nonneg_left e (show 0 ≤ r by omega)
    omega
theorem bits_root {n r : Int} {k : Nat} (h : IsRoot n r) (hk : intBits n ≤ k) : intBits r ≤ k := bits_lt h.1 (root_le h) hk
set_option maxHeartbeats 8000000 in
theorem root_c (w : World) (mean : ExcName → Option Value) (mg mb : Str → Option Value) (news : Led) (n : Int) (tn : Tok) (h0 : 0 ≤ n) {k : Nat} (hz : intBits n ≤ k) (hn : k ≤ 4000) :
    Cl w mean mg mb 103 [.int n tn] news 1 (RIntE (IsRoot n) news) := by
  unfold Cl RIntE
  k_fill
  intro dp un gd cn cs a ccd cl outer A₀ base h₀ L m s Q E B F X N T hk hdp hun hret
  replace hz := Nat.le_trans hz hn
  refine wpAny_call ?_
  k_with_none
  (k_with "bbm" => (first
  | with_reducible assumption
  | ((with_reducible apply bits_mnum) <;> bits_by_make)
  | ((with_reducible apply bits_mden) <;> bits_by_make)
  | ((with_reducible apply bits_anum) <;> bits_by_make)
  | ((with_reducible apply bits_aden) <;> bits_by_make)
  | ((with_reducible apply bits_snum) <;> bits_by_make)
  | ((with_reducible apply bits_sden) <;> bits_by_make)
  | ((with_reducible apply bits_nnum) <;> bits_by_make)
  | ((with_reducible apply bits_nden) <;> bits_by_make)
  | fail "bits"))
  (k_with "enter" => ((refine' code_def ?k1 ?k2 ?k3 ?k4 ?k5 ?kA ?kF ?kK ?k6 ?k7 ?k8 ?k9 ?kB ?_ ?c2 ?c3 ?c4 ?c5; (case kA => exact rfl); (case kF => exact rfl); (case kK => assumption); (case k1 => k_asm); (case k2 => k_asm); (case k3 => k_asm); (case k4 => k_asm); (case k5 => k_asm); (case k6 => k_is); (case k7 => k_is); (case k8 => k_extra "room"); (case k9 => first | exact BindsTo.of_eq rfl | exact binds_K (by k_in) rfl (by k_is) rfl rfl rfl); (case c5 => decide); (case kB => exact locs rfl); (case c2 => exact rfl); (case c3 => exact rfl); (case c4 => exact rfl); k_whole; intro g' L' h' FG' F' N' B' X' T'; (try dsimp only); (try k_lift B'); (try k_fold))))
  (k_with "room" => first
    | ((try simp only [depth_under_make, depth_under_kw, depth_in1, depth_deeper, depth_caller]); decide)
    | ((try simp only [depth_under_make, depth_under_kw, depth_in1, depth_deeper, depth_caller]); (try dsimp only [ktrTop]); refine Nat.lt_of_le_of_lt ?_ hdp; (try simp only [Nat.add_assoc]); exact Nat.add_le_add_left (by decide) _)
    | ktr_room)
  (k_with "units" => first
    | ((simp only [units_under_make, units_in1, units_deeper, Around.mark_units, units_caller]); (try dsimp only [ktrTop]); refine Nat.lt_of_le_of_lt ?_ hun; (try simp only [Nat.add_assoc]); exact Nat.add_le_add_left (by decide) _)
    | ((simp only [units_under_make, units_in1, units_deeper, Around.mark_units, units_caller]); rw [cLine_is]; decide)
    | ktr_units)
  (k_with "fdiv" => (k_dflt (refine' fdiv_k ?fa ?fb ?fc ?_; (case fa => omega); (case fb => bits_by_make); (case fc => decide); k_whole)))
  (k_with "subT" => (k_here; (with_reducible show wpAny _ _ (subscriptTail _ _ (Value.ref _) (Value.int _ _)) _ _ _); k_dflt (refine' item_tupleT ?t ?a ?b ?c ?d ?_; (case t => exact News.isTup (by k_asm) (by k_mem)); (case a => decide); (case b => decide); (case c => rfl); (case d => rfl); k_whole)))
  (k_with "cc" => (k_here; (with_reducible show wpAny _ _ (call (Value.ref 60) _) _ _ _); k_dflt (
   refine' Cl.use (gcd_c _ _ _ _ _ _ _ _ _ ?kp) ?k1 ?k2 ?k3 ?k4 ?k5 ?kK ?kd ?ku ?_;
   (case k1 => k_asm); (case k2 => k_asm); (case k3 => k_asm); (case k4 => k_asm); (case k5 => k_asm); (case kK => first | exact rfl | assumption);
   (case kp => first | assumption | omega); (case kd => k_extra "room"); (case ku => k_extra "units"); intro t9 h9 tk9 F9 N9; (try dsimp only); (try k_fold))))
  (k_with "cc" => (k_here; (with_reducible show wpAny _ _ (call (Value.ref 68) _) _ _ _); k_dflt (
   refine' Cl.use (frac_c _ _ _ _ _ _ _ _ _ ?kp ?kz ?kn) ?k1 ?k2 ?k3 ?k4 ?k5 ?kK ?kd ?ku ?_;
   (case k1 => k_asm); (case k2 => k_asm); (case k3 => k_asm); (case k4 => k_asm); (case k5 => k_asm); (case kK => first | exact rfl | assumption);
   (case kp => first | assumption | omega); (case kz => bits_by_make); (case kn => decide); (case kd => k_extra "room"); (case ku => k_extra "units"); intro D9 t9 u9 c9 h9 tk9 F9 N9 l1; (try k_lt l1); (try dsimp only); (try k_fold))))
  (k_with "cc" => (k_here; (with_reducible show wpAny _ _ (call (Value.ref 89) _) _ _ _); k_dflt (
   refine' Cl.use (times_c _ _ _ _ _ ?kx ?ky ?kP ?kQ ?kz1 ?kz2 ?kz3 ?kz4 ?kn) ?k1 ?k2 ?k3 ?k4 ?k5 ?kK ?kd ?ku ?_;
   (case k1 => k_asm); (case k2 => k_asm); (case k3 => k_asm); (case k4 => k_asm); (case k5 => k_asm); (case kK => first | exact rfl | assumption);
   (case kx => k_mem); (case ky => k_mem); (case kP => first | with_reducible exact ratIs_self _ | with_reducible exact ratIs_int _ | with_reducible assumption | fail "rat_is"); (case kQ => first | with_reducible exact ratIs_self _ | with_reducible exact ratIs_int _ | with_reducible assumption | fail "rat_is"); (case kz1 => bits_by_make); (case kz2 => bits_by_make); (case kz3 => bits_by_make); (case kz4 => bits_by_make);
   (case kn => decide); (case kd => k_extra "room"); (case ku => k_extra "units"); intro D9 t9 u9 c9 h9 tk9 F9 N9 l1; (try k_lt l1); (try dsimp only); (try k_fold))))
  (k_with "cc" => (k_here; (with_reducible show wpAny _ _ (call (Value.ref 75) _) _ _ _); k_dflt (
   refine' Cl.use (plus_c _ _ _ _ _ ?kx ?ky ?kP ?kQ ?kz1 ?kz2 ?kz3 ?kz4 ?kn) ?k1 ?k2 ?k3 ?k4 ?k5 ?kK ?kd ?ku ?_;
   (case k1 => k_asm); (case k2 => k_asm); (case k3 => k_asm); (case k4 => k_asm); (case k5 => k_asm); (case kK => first | exact rfl | assumption);
   (case kx => k_mem); (case ky => k_mem); (case kP => first | with_reducible exact ratIs_self _ | with_reducible exact ratIs_int _ | with_reducible assumption | fail "rat_is"); (case kQ => first | with_reducible exact ratIs_self _ | with_reducible exact ratIs_int _ | with_reducible assumption | fail "rat_is"); (case kz1 => bits_by_make); (case kz2 => bits_by_make); (case kz3 => bits_by_make); (case kz4 => bits_by_make);
   (case kn => decide); (case kd => k_extra "room"); (case ku => k_extra "units"); intro D9 t9 u9 c9 h9 tk9 F9 N9 l1; (try k_lt l1); (try dsimp only); (try k_fold))))
  (k_with "cc" => (k_here; (with_reducible show wpAny _ _ (call (Value.ref 82) _) _ _ _); k_dflt (
   refine' Cl.use (minus_c _ _ _ _ _ ?kx ?ky ?kP ?kQ ?kz1 ?kz2 ?kz3 ?kz4 ?kn) ?k1 ?k2 ?k3 ?k4 ?k5 ?kK ?kd ?ku ?_;
   (case k1 => k_asm); (case k2 => k_asm); (case k3 => k_asm); (case k4 => k_asm); (case k5 => k_asm); (case kK => first | exact rfl | assumption);
   (case kx => k_mem); (case ky => k_mem); (case kP => first | with_reducible exact ratIs_self _ | with_reducible exact ratIs_int _ | with_reducible assumption | fail "rat_is"); (case kQ => first | with_reducible exact ratIs_self _ | with_reducible exact ratIs_int _ | with_reducible assumption | fail "rat_is"); (case kz1 => bits_by_make); (case kz2 => bits_by_make); (case kz3 => bits_by_make); (case kz4 => bits_by_make);
   (case kn => decide); (case kd => k_extra "room"); (case ku => k_extra "units"); intro D9 t9 u9 c9 h9 tk9 F9 N9 l1; (try k_lt l1); (try dsimp only); (try k_fold))))
  (k_with "cc" => (k_here; (with_reducible show wpAny _ _ (call (Value.ref 96) _) _ _ _); k_dflt (
   refine' Cl.use (neg_c _ _ _ _ _ ?kx ?kP) ?k1 ?k2 ?k3 ?k4 ?k5 ?kK ?kd ?ku ?_;
   (case k1 => k_asm); (case k2 => k_asm); (case k3 => k_asm); (case k4 => k_asm); (case k5 => k_asm); (case kK => first | exact rfl | assumption);
   (case kx => k_mem); (case kP => first | with_reducible exact ratIs_self _ | with_reducible exact ratIs_int _ | with_reducible assumption | fail "rat_is");
   (case kd => k_extra "room"); (case ku => k_extra "units"); intro D9 t9 u9 c9 h9 tk9 F9 N9 l1; (try k_lt l1); (try dsimp only); (try k_fold))))
  (k_with "cc" => (k_here; (with_reducible show wpAny _ _ (call (Value.ref 68) _) _ _ _); k_dflt (
   refine' Cl.use (frac_e _ _ _ _ _ _ _ _ _ ?kp ?ky ?kz ?kn) ?k1 ?k2 ?k3 ?k4 ?k5 ?kK ?kd ?ku ?_;
   (case k1 => k_asm); (case k2 => k_asm); (case k3 => k_asm); (case k4 => k_asm); (case k5 => k_asm); (case kK => first | exact rfl | assumption);
   (case kp => first | with_reducible assumption | omega); (case ky => bits_by_make); (case kz => bits_by_make); (case kn => decide); (case kd => k_extra "room"); (case ku => k_extra "units"); intro R9 hS9 D9 t9 u9 c9 h9 tk9 F9 N9 l1; (obtain ⟨hR9, hn9, hd9⟩ := hS9); (try k_extra "frac"); (try k_lt l1); (try dsimp only); (try k_fold))))
  (k_with "cc" => (k_here; (with_reducible show wpAny _ _ (call (Value.ref 89) _) _ _ _); k_dflt (
   refine' Cl.use (times_e _ _ _ _ _ ?kx ?ky ?kP ?kQ ?kz1 ?kz2 ?kz3 ?kz4 ?kn) ?k1 ?k2 ?k3 ?k4 ?k5 ?kK ?kd ?ku ?_;
   (case k1 => k_asm); (case k2 => k_asm); (case k3 => k_asm); (case k4 => k_asm); (case k5 => k_asm); (case kK => first | exact rfl | assumption);
   (case kx => k_mem); (case ky => k_mem); (case kP => first | with_reducible exact ratIs_self _ | with_reducible exact ratIs_int _ | with_reducible assumption | fail "rat_is"); (case kQ => first | with_reducible exact ratIs_self _ | with_reducible exact ratIs_int _ | with_reducible assumption | fail "rat_is"); (case kz1 => bits_by_make); (case kz2 => bits_by_make); (case kz3 => bits_by_make); (case kz4 => bits_by_make);
   (case kn => decide); (case kd => k_extra "room"); (case ku => k_extra "units"); intro R9 hS9 D9 t9 u9 c9 h9 tk9 F9 N9 l1; (obtain ⟨hR9, hn9, hd9⟩ := hS9); (try k_extra "ops"); (try k_lt l1); (try dsimp only); (try k_fold))))
  (k_with "cc" => (k_here; (with_reducible show wpAny _ _ (call (Value.ref 75) _) _ _ _); k_dflt (
   refine' Cl.use (plus_e _ _ _ _ _ ?kx ?ky ?kP ?kQ ?kz1 ?kz2 ?kz3 ?kz4 ?kn) ?k1 ?k2 ?k3 ?k4 ?k5 ?kK ?kd ?ku ?_;
   (case k1 => k_asm); (case k2 => k_asm); (case k3 => k_asm); (case k4 => k_asm); (case k5 => k_asm); (case kK => first | exact rfl | assumption);
   (case kx => k_mem); (case ky => k_mem); (case kP => first | with_reducible exact ratIs_self _ | with_reducible exact ratIs_int _ | with_reducible assumption | fail "rat_is"); (case kQ => first | with_reducible exact ratIs_self _ | with_reducible exact ratIs_int _ | with_reducible assumption | fail "rat_is"); (case kz1 => bits_by_make); (case kz2 => bits_by_make); (case kz3 => bits_by_make); (case kz4 => bits_by_make);
   (case kn => decide); (case kd => k_extra "room"); (case ku => k_extra "units"); intro R9 hS9 D9 t9 u9 c9 h9 tk9 F9 N9 l1; (obtain ⟨hR9, hn9, hd9⟩ := hS9); (try k_extra "ops"); (try k_lt l1); (try dsimp only); (try k_fold))))
  (k_with "cc" => (k_here; (with_reducible show wpAny _ _ (call (Value.ref 82) _) _ _ _); k_dflt (
   refine' Cl.use (minus_e _ _ _ _ _ ?kx ?ky ?kP ?kQ ?kz1 ?kz2 ?kz3 ?kz4 ?kn) ?k1 ?k2 ?k3 ?k4 ?k5 ?kK ?kd ?ku ?_;
   (case k1 => k_asm); (case k2 => k_asm); (case k3 => k_asm); (case k4 => k_asm); (case k5 => k_asm); (case kK => first | exact rfl | assumption);
   (case kx => k_mem); (case ky => k_mem); (case kP => first | with_reducible exact ratIs_self _ | with_reducible exact ratIs_int _ | with_reducible assumption | fail "rat_is"); (case kQ => first | with_reducible exact ratIs_self _ | with_reducible exact ratIs_int _ | with_reducible assumption | fail "rat_is"); (case kz1 => bits_by_make); (case kz2 => bits_by_make); (case kz3 => bits_by_make); (case kz4 => bits_by_make);
   (case kn => decide); (case kd => k_extra "room"); (case ku => k_extra "units"); intro R9 hS9 D9 t9 u9 c9 h9 tk9 F9 N9 l1; (obtain ⟨hR9, hn9, hd9⟩ := hS9); (try k_extra "ops"); (try k_lt l1); (try dsimp only); (try k_fold))))
  (k_with "cc" => (k_here; (with_reducible show wpAny _ _ (call (Value.ref 96) _) _ _ _); k_dflt (
   refine' Cl.use (neg_e _ _ _ _ _ ?kx ?kP ?kz1 ?kz2) ?k1 ?k2 ?k3 ?k4 ?k5 ?kK ?kd ?ku ?_;
   (case k1 => k_asm); (case k2 => k_asm); (case k3 => k_asm); (case k4 => k_asm); (case k5 => k_asm); (case kK => first | exact rfl | assumption);
   (case kx => k_mem); (case kP => first | with_reducible exact ratIs_self _ | with_reducible exact ratIs_int _ | with_reducible assumption | fail "rat_is"); (case kz1 => bits_by_make); (case kz2 => bits_by_make);
   (case kd => k_extra "room"); (case ku => k_extra "units"); intro R9 hS9 D9 t9 u9 c9 h9 tk9 F9 N9 l1; (obtain ⟨hR9, hn9, hd9⟩ := hS9); (try k_extra "ops"); (try k_lt l1); (try dsimp only); (try k_fold))))
  (k_with "bbm" => (k_extra "bits"))
  k_dflt cell_enter
  (k_with "exec While Compare cons nil" => k_while (fun _ f => 1 ≤ f ∧ f ≤ 2 * n) (fun _ f => (2 * n + 1 - f).toNat) "found")
  (k_with "exec While Compare cons nil" => k_while (fun _ f l => 1 ≤ f ∧ f ≤ 2 * n ∧ n < (f + 1) * (f + 1) ∧ 1 ≤ l ∧ l = (f + n.fdiv f).fdiv 2) (fun _ f l => f.toNat) "found" "lower")
  (k_with "state" => first
    | exact root_s0 (by assumption) (by assumption)
    | exact root_s1 (by assumption) (by assumption)
    | exact root_t0 (by assumption) (by assumption) (by assumption) (by assumption) (by assumption)
    | exact root_t1 (by assumption) (by assumption) (by assumption) (by assumption) (by assumption) (by assumption) (by assumption))
  (k_with "bits" => exact root_bits hz (by first | assumption | omega) (by first | assumption | omega))
  (k_with "measure" => exact root_am (by assumption) (by assumption))
  k_steps
  all_goals first
    | exact ret_intE hret (root_e0 (by assumption)) (by assumption) (by assumption) (fun p hp => hp)
    | exact ret_intE hret (root_e1 (by assumption) (by assumption) (by assumption) (by assumption) (by assumption) (by assumption)) (by assumption) (by assumption) (fun p hp => hp)
    | skip
theorem fr_ne {f s x y : Int} (h3 : Int.gcd f s = Int.gcd x y) (h1 : 0 ≤ f) (h2 : 0 ≤ s) (hs : ¬ 0 < s) (hy : 0 < y) : f ≠ 0 := by
  have := gcd_en h1 h2 h3 hs
  have := gcd_pos x hy
  omega
theorem fr_bits {f s x y : Int} {n : Nat} (h3 : Int.gcd f s = Int.gcd x y) (h1 : 0 ≤ f) (h2 : 0 ≤ s) (hs : ¬ 0 < s) (hy : 0 < y) (hz : intBits y ≤ n) : intBits f ≤ n := by
  rw [gcd_en h1 h2 h3 hs]
  exact gcd_bits x hy hz
theorem fr_num {f s x y : Int} (h3 : Int.gcd f s = Int.gcd x y) (h1 : 0 ≤ f) (h2 : 0 ≤ s) (hs : ¬ 0 < s) (hy : 0 < y) : x.fdiv f = (Rat.divInt x y).num := by
  rw [gcd_en h1 h2 h3 hs]
  exact num_eq hy
theorem fr_den {f s x y : Int} (h3 : Int.gcd f s = Int.gcd x y) (h1 : 0 ≤ f) (h2 : 0 ≤ s) (hs : ¬ 0 < s) (hy : 0 < y) : y.fdiv f = ((Rat.divInt x y).den : Int) := by
  rw [gcd_en h1 h2 h3 hs]
  exact den_eq hy
set_option maxHeartbeats 8000000 in
theorem lfrac_c (w : World) (mean : ExcName → Option Value) (mg mb : Str → Option Value) (news : Led) (x y : Int) (tx ty : Tok) (hy : 0 < y) {n : Nat} (hz : intBits y ≤ n) (hn : n ≤ 8000) :
    Cl w mean mg mb 250 [.int x tx, .int y ty] news 1 (RTup (Rat.divInt x y).num ((Rat.divInt x y).den : Int) news) := by
  unfold Cl RTup
  k_fill
  intro dp un gd cn cs a ccd cl outer A₀ base h₀ L m s Q E B F X N T hk hdp hun hret
  replace hz := Nat.le_trans hz hn
  have hyc := Int.le_of_lt hy
  refine wpAny_call ?_
  k_with_none
  (k_with "bbm" => (first
  | with_reducible assumption
  | ((with_reducible apply bits_mnum) <;> bits_by_make)
  | ((with_reducible apply bits_mden) <;> bits_by_make)
  | ((with_reducible apply bits_anum) <;> bits_by_make)
  | ((with_reducible apply bits_aden) <;> bits_by_make)
  | ((with_reducible apply bits_snum) <;> bits_by_make)
  | ((with_reducible apply bits_sden) <;> bits_by_make)
  | ((with_reducible apply bits_nnum) <;> bits_by_make)
  | ((with_reducible apply bits_nden) <;> bits_by_make)
  | fail "bits"))
  (k_with "enter" => ((refine' code_def ?k1 ?k2 ?k3 ?k4 ?k5 ?kA ?kF ?kK ?k6 ?k7 ?k8 ?k9 ?kB ?_ ?c2 ?c3 ?c4 ?c5; (case kA => exact rfl); (case kF => exact rfl); (case kK => assumption); (case k1 => k_asm); (case k2 => k_asm); (case k3 => k_asm); (case k4 => k_asm); (case k5 => k_asm); (case k6 => k_is); (case k7 => k_is); (case k8 => k_extra "room"); (case k9 => first | exact BindsTo.of_eq rfl | exact binds_K (by k_in) rfl (by k_is) rfl rfl rfl); (case c5 => decide); (case kB => exact locs rfl); (case c2 => exact rfl); (case c3 => exact rfl); (case c4 => exact rfl); k_whole; intro g' L' h' FG' F' N' B' X' T'; (try dsimp only); (try k_lift B'); (try k_fold))))
  (k_with "room" => first
    | ((try simp only [depth_under_make, depth_under_kw, depth_in1, depth_deeper, depth_caller]); decide)
    | ((try simp only [depth_under_make, depth_under_kw, depth_in1, depth_deeper, depth_caller]); (try dsimp only [ktrTop]); refine Nat.lt_of_le_of_lt ?_ hdp; (try simp only [Nat.add_assoc]); exact Nat.add_le_add_left (by decide) _)
    | ktr_room)
  (k_with "units" => first
    | ((simp only [units_under_make, units_in1, units_deeper, Around.mark_units, units_caller]); (try dsimp only [ktrTop]); refine Nat.lt_of_le_of_lt ?_ hun; (try simp only [Nat.add_assoc]); exact Nat.add_le_add_left (by decide) _)
    | ((simp only [units_under_make, units_in1, units_deeper, Around.mark_units, units_caller]); rw [cLine_is]; decide)
    | ktr_units)
  (k_with "fdiv" => (k_dflt (refine' fdiv_k ?fa ?fb ?fc ?_; (case fa => omega); (case fb => bits_by_make); (case fc => decide); k_whole)))
  (k_with "subT" => (k_here; (with_reducible show wpAny _ _ (subscriptTail _ _ (Value.ref _) (Value.int _ _)) _ _ _); k_dflt (refine' item_tupleT ?t ?a ?b ?c ?d ?_; (case t => exact News.isTup (by k_asm) (by k_mem)); (case a => decide); (case b => decide); (case c => rfl); (case d => rfl); k_whole)))
  (k_with "cc" => (k_here; (with_reducible show wpAny _ _ (call (Value.ref 60) _) _ _ _); k_dflt (
   refine' Cl.use (gcd_c _ _ _ _ _ _ _ _ _ ?kp) ?k1 ?k2 ?k3 ?k4 ?k5 ?kK ?kd ?ku ?_;
   (case k1 => k_asm); (case k2 => k_asm); (case k3 => k_asm); (case k4 => k_asm); (case k5 => k_asm); (case kK => first | exact rfl | assumption);
   (case kp => first | assumption | omega); (case kd => k_extra "room"); (case ku => k_extra "units"); intro t9 h9 tk9 F9 N9; (try dsimp only); (try k_fold))))
  (k_with "cc" => (k_here; (with_reducible show wpAny _ _ (call (Value.ref 68) _) _ _ _); k_dflt (
   refine' Cl.use (frac_c _ _ _ _ _ _ _ _ _ ?kp ?kz ?kn) ?k1 ?k2 ?k3 ?k4 ?k5 ?kK ?kd ?ku ?_;
   (case k1 => k_asm); (case k2 => k_asm); (case k3 => k_asm); (case k4 => k_asm); (case k5 => k_asm); (case kK => first | exact rfl | assumption);
   (case kp => first | assumption | omega); (case kz => bits_by_make); (case kn => decide); (case kd => k_extra "room"); (case ku => k_extra "units"); intro D9 t9 u9 c9 h9 tk9 F9 N9 l1; (try k_lt l1); (try dsimp only); (try k_fold))))
  (k_with "cc" => (k_here; (with_reducible show wpAny _ _ (call (Value.ref 89) _) _ _ _); k_dflt (
   refine' Cl.use (times_c _ _ _ _ _ ?kx ?ky ?kP ?kQ ?kz1 ?kz2 ?kz3 ?kz4 ?kn) ?k1 ?k2 ?k3 ?k4 ?k5 ?kK ?kd ?ku ?_;
   (case k1 => k_asm); (case k2 => k_asm); (case k3 => k_asm); (case k4 => k_asm); (case k5 => k_asm); (case kK => first | exact rfl | assumption);
   (case kx => k_mem); (case ky => k_mem); (case kP => first | with_reducible exact ratIs_self _ | with_reducible exact ratIs_int _ | with_reducible assumption | fail "rat_is"); (case kQ => first | with_reducible exact ratIs_self _ | with_reducible exact ratIs_int _ | with_reducible assumption | fail "rat_is"); (case kz1 => bits_by_make); (case kz2 => bits_by_make); (case kz3 => bits_by_make); (case kz4 => bits_by_make);
   (case kn => decide); (case kd => k_extra "room"); (case ku => k_extra "units"); intro D9 t9 u9 c9 h9 tk9 F9 N9 l1; (try k_lt l1); (try dsimp only); (try k_fold))))
  (k_with "cc" => (k_here; (with_reducible show wpAny _ _ (call (Value.ref 75) _) _ _ _); k_dflt (
   refine' Cl.use (plus_c _ _ _ _ _ ?kx ?ky ?kP ?kQ ?kz1 ?kz2 ?kz3 ?kz4 ?kn) ?k1 ?k2 ?k3 ?k4 ?k5 ?kK ?kd ?ku ?_;
   (case k1 => k_asm); (case k2 => k_asm); (case k3 => k_asm); (case k4 => k_asm); (case k5 => k_asm); (case kK => first | exact rfl | assumption);
   (case kx => k_mem); (case ky => k_mem); (case kP => first | with_reducible exact ratIs_self _ | with_reducible exact ratIs_int _ | with_reducible assumption | fail "rat_is"); (case kQ => first | with_reducible exact ratIs_self _ | with_reducible exact ratIs_int _ | with_reducible assumption | fail "rat_is"); (case kz1 => bits_by_make); (case kz2 => bits_by_make); (case kz3 => bits_by_make); (case kz4 => bits_by_make);
   (case kn => decide); (case kd => k_extra "room"); (case ku => k_extra "units"); intro D9 t9 u9 c9 h9 tk9 F9 N9 l1; (try k_lt l1); (try dsimp only); (try k_fold))))
  (k_with "cc" => (k_here; (with_reducible show wpAny _ _ (call (Value.ref 82) _) _ _ _); k_dflt (
   refine' Cl.use (minus_c _ _ _ _ _ ?kx ?ky ?kP ?kQ ?kz1 ?kz2 ?kz3 ?kz4 ?kn) ?k1 ?k2 ?k3 ?k4 ?k5 ?kK ?kd ?ku ?_;
   (case k1 => k_asm); (case k2 => k_asm); (case k3 => k_asm); (case k4 => k_asm); (case k5 => k_asm); (case kK => first | exact rfl | assumption);
   (case kx => k_mem); (case ky => k_mem); (case kP => first | with_reducible exact ratIs_self _ | with_reducible exact ratIs_int _ | with_reducible assumption | fail "rat_is"); (case kQ => first | with_reducible exact ratIs_self _ | with_reducible exact ratIs_int _ | with_reducible assumption | fail "rat_is"); (case kz1 => bits_by_make); (case kz2 => bits_by_make); (case kz3 => bits_by_make); (case kz4 => bits_by_make);
   (case kn => decide); (case kd => k_extra "room"); (case ku => k_extra "units"); intro D9 t9 u9 c9 h9 tk9 F9 N9 l1; (try k_lt l1); (try dsimp only); (try k_fold))))
  (k_with "cc" => (k_here; (with_reducible show wpAny _ _ (call (Value.ref 96) _) _ _ _); k_dflt (
   refine' Cl.use (neg_c _ _ _ _ _ ?kx ?kP) ?k1 ?k2 ?k3 ?k4 ?k5 ?kK ?kd ?ku ?_;
   (case k1 => k_asm); (case k2 => k_asm); (case k3 => k_asm); (case k4 => k_asm); (case k5 => k_asm); (case kK => first | exact rfl | assumption);
   (case kx => k_mem); (case kP => first | with_reducible exact ratIs_self _ | with_reducible exact ratIs_int _ | with_reducible assumption | fail "rat_is");
   (case kd => k_extra "room"); (case ku => k_extra "units"); intro D9 t9 u9 c9 h9 tk9 F9 N9 l1; (try k_lt l1); (try dsimp only); (try k_fold))))
  (k_with "cc" => (k_here; (with_reducible show wpAny _ _ (call (Value.ref 68) _) _ _ _); k_dflt (
   refine' Cl.use (frac_e _ _ _ _ _ _ _ _ _ ?kp ?ky ?kz ?kn) ?k1 ?k2 ?k3 ?k4 ?k5 ?kK ?kd ?ku ?_;
   (case k1 => k_asm); (case k2 => k_asm); (case k3 => k_asm); (case k4 => k_asm); (case k5 => k_asm); (case kK => first | exact rfl | assumption);
   (case kp => first | with_reducible assumption | omega); (case ky => bits_by_make); (case kz => bits_by_make); (case kn => decide); (case kd => k_extra "room"); (case ku => k_extra "units"); intro R9 hS9 D9 t9 u9 c9 h9 tk9 F9 N9 l1; (obtain ⟨hR9, hn9, hd9⟩ := hS9); (try k_extra "frac"); (try k_lt l1); (try dsimp only); (try k_fold))))
  (k_with "cc" => (k_here; (with_reducible show wpAny _ _ (call (Value.ref 89) _) _ _ _); k_dflt (
   refine' Cl.use (times_e _ _ _ _ _ ?kx ?ky ?kP ?kQ ?kz1 ?kz2 ?kz3 ?kz4 ?kn) ?k1 ?k2 ?k3 ?k4 ?k5 ?kK ?kd ?ku ?_;
   (case k1 => k_asm); (case k2 => k_asm); (case k3 => k_asm); (case k4 => k_asm); (case k5 => k_asm); (case kK => first | exact rfl | assumption);
   (case kx => k_mem); (case ky => k_mem); (case kP => first | with_reducible exact ratIs_self _ | with_reducible exact ratIs_int _ | with_reducible assumption | fail "rat_is"); (case kQ => first | with_reducible exact ratIs_self _ | with_reducible exact ratIs_int _ | with_reducible assumption | fail "rat_is"); (case kz1 => bits_by_make); (case kz2 => bits_by_make); (case kz3 => bits_by_make); (case kz4 => bits_by_make);
   (case kn => decide); (case kd => k_extra "room"); (case ku => k_extra "units"); intro R9 hS9 D9 t9 u9 c9 h9 tk9 F9 N9 l1; (obtain ⟨hR9, hn9, hd9⟩ := hS9); (try k_extra "ops"); (try k_lt l1); (try dsimp only); (try k_fold))))
  (k_with "cc" => (k_here; (with_reducible show wpAny _ _ (call (Value.ref 75) _) _ _ _); k_dflt (
   refine' Cl.use (plus_e _ _ _ _ _ ?kx ?ky ?kP ?kQ ?kz1 ?kz2 ?kz3 ?kz4 ?kn) ?k1 ?k2 ?k3 ?k4 ?k5 ?kK ?kd ?ku ?_;
   (case k1 => k_asm); (case k2 => k_asm); (case k3 => k_asm); (case k4 => k_asm); (case k5 => k_asm); (case kK => first | exact rfl | assumption);
   (case kx => k_mem); (case ky => k_mem); (case kP => first | with_reducible exact ratIs_self _ | with_reducible exact ratIs_int _ | with_reducible assumption | fail "rat_is"); (case kQ => first | with_reducible exact ratIs_self _ | with_reducible exact ratIs_int _ | with_reducible assumption | fail "rat_is"); (case kz1 => bits_by_make); (case kz2 => bits_by_make); (case kz3 => bits_by_make); (case kz4 => bits_by_make);
   (case kn => decide); (case kd => k_extra "room"); (case ku => k_extra "units"); intro R9 hS9 D9 t9 u9 c9 h9 tk9 F9 N9 l1; (obtain ⟨hR9, hn9, hd9⟩ := hS9); (try k_extra "ops"); (try k_lt l1); (try dsimp only); (try k_fold))))
  (k_with "cc" => (k_here; (with_reducible show wpAny _ _ (call (Value.ref 82) _) _ _ _); k_dflt (
   refine' Cl.use (minus_e _ _ _ _ _ ?kx ?ky ?kP ?kQ ?kz1 ?kz2 ?kz3 ?kz4 ?kn) ?k1 ?k2 ?k3 ?k4 ?k5 ?kK ?kd ?ku ?_;
   (case k1 => k_asm); (case k2 => k_asm); (case k3 => k_asm); (case k4 => k_asm); (case k5 => k_asm); (case kK => first | exact rfl | assumption);
   (case kx => k_mem); (case ky => k_mem); (case kP => first | with_reducible exact ratIs_self _ | with_reducible exact ratIs_int _ | with_reducible assumption | fail "rat_is"); (case kQ => first | with_reducible exact ratIs_self _ | with_reducible exact ratIs_int _ | with_reducible assumption | fail "rat_is"); (case kz1 => bits_by_make); (case kz2 => bits_by_make); (case kz3 => bits_by_make); (case kz4 => bits_by_make);
   (case kn => decide); (case kd => k_extra "room"); (case ku => k_extra "units"); intro R9 hS9 D9 t9 u9 c9 h9 tk9 F9 N9 l1; (obtain ⟨hR9, hn9, hd9⟩ := hS9); (try k_extra "ops"); (try k_lt l1); (try dsimp only); (try k_fold))))
  (k_with "cc" => (k_here; (with_reducible show wpAny _ _ (call (Value.ref 96) _) _ _ _); k_dflt (
   refine' Cl.use (neg_e _ _ _ _ _ ?kx ?kP ?kz1 ?kz2) ?k1 ?k2 ?k3 ?k4 ?k5 ?kK ?kd ?ku ?_;
   (case k1 => k_asm); (case k2 => k_asm); (case k3 => k_asm); (case k4 => k_asm); (case k5 => k_asm); (case kK => first | exact rfl | assumption);
   (case kx => k_mem); (case kP => first | with_reducible exact ratIs_self _ | with_reducible exact ratIs_int _ | with_reducible assumption | fail "rat_is"); (case kz1 => bits_by_make); (case kz2 => bits_by_make);
   (case kd => k_extra "room"); (case ku => k_extra "units"); intro R9 hS9 D9 t9 u9 c9 h9 tk9 F9 N9 l1; (obtain ⟨hR9, hn9, hd9⟩ := hS9); (try k_extra "ops"); (try k_lt l1); (try dsimp only); (try k_fold))))
  (k_with "bbm" => (k_extra "bits"))
  (k_with "fdiv" => (k_dflt (refine' fdiv_k ?fa ?fb ?fc ?_; (case fa => exact fr_ne (by assumption) (by assumption) (by assumption) (by assumption) (by assumption)); (case fb => exact fr_bits (by assumption) (by assumption) (by assumption) (by assumption) (by assumption) (by assumption)); (case fc => decide); k_whole)))
  k_dflt cell_enter
  (k_with "exec While Compare cons nil" => k_while (fun _ f s => 0 ≤ f ∧ 0 ≤ s ∧ Int.gcd f s = Int.gcd x y) (fun _ _ s => s.toNat) "one" "other")
  (k_with "state" => first | exact gcd_st0 hyc | exact gcd_st1 (by assumption) (by assumption) (by assumption))
  (k_with "measure" => exact gcd_me (by simp_all))
  k_steps
  all_goals exact ret_tup hret (fr_num (by assumption) (by assumption) (by assumption) (by assumption) hy) (fr_den (by assumption) (by assumption) (by assumption) (by assumption) hy) (by assumption) (by assumption) (.head _) (fun p hp => .tail _ (.tail _ hp)) (ktn_ltOf (And.right (by assumption)))
set_option maxHeartbeats 8000000 in
theorem near_c (w : World) (mean : ExcName → Option Value) (mg mb : Str → Option Value) (news : Led) (x y : Int) (tx ty : Tok) (h1 : y ≤ x ∧ (x - y) * 16384 < y) :
    Cl w mean mg mb 257 [.int x tx, .int y ty] news 1 (RBool true news) := by
  unfold Cl RBool
  k_fill
  intro dp un gd cn cs a ccd cl outer A₀ base h₀ L m s Q E B F X N T hk hdp hun hret
  refine wpAny_call ?_
  k_with_none
  (k_with "bbm" => (first
  | with_reducible assumption
  | ((with_reducible apply bits_mnum) <;> bits_by_make)
  | ((with_reducible apply bits_mden) <;> bits_by_make)
  | ((with_reducible apply bits_anum) <;> bits_by_make)
  | ((with_reducible apply bits_aden) <;> bits_by_make)
  | ((with_reducible apply bits_snum) <;> bits_by_make)
  | ((with_reducible apply bits_sden) <;> bits_by_make)
  | ((with_reducible apply bits_nnum) <;> bits_by_make)
  | ((with_reducible apply bits_nden) <;> bits_by_make)
  | fail "bits"))
  (k_with "enter" => ((refine' code_def ?k1 ?k2 ?k3 ?k4 ?k5 ?kA ?kF ?kK ?k6 ?k7 ?k8 ?k9 ?kB ?_ ?c2 ?c3 ?c4 ?c5; (case kA => exact rfl); (case kF => exact rfl); (case kK => assumption); (case k1 => k_asm); (case k2 => k_asm); (case k3 => k_asm); (case k4 => k_asm); (case k5 => k_asm); (case k6 => k_is); (case k7 => k_is); (case k8 => k_extra "room"); (case k9 => first | exact BindsTo.of_eq rfl | exact binds_K (by k_in) rfl (by k_is) rfl rfl rfl); (case c5 => decide); (case kB => exact locs rfl); (case c2 => exact rfl); (case c3 => exact rfl); (case c4 => exact rfl); k_whole; intro g' L' h' FG' F' N' B' X' T'; (try dsimp only); (try k_lift B'); (try k_fold))))
  (k_with "room" => first
    | ((try simp only [depth_under_make, depth_under_kw, depth_in1, depth_deeper, depth_caller]); decide)
    | ((try simp only [depth_under_make, depth_under_kw, depth_in1, depth_deeper, depth_caller]); (try dsimp only [ktrTop]); refine Nat.lt_of_le_of_lt ?_ hdp; (try simp only [Nat.add_assoc]); exact Nat.add_le_add_left (by decide) _)
    | ktr_room)
  (k_with "units" => first
    | ((simp only [units_under_make, units_in1, units_deeper, Around.mark_units, units_caller]); (try dsimp only [ktrTop]); refine Nat.lt_of_le_of_lt ?_ hun; (try simp only [Nat.add_assoc]); exact Nat.add_le_add_left (by decide) _)
    | ((simp only [units_under_make, units_in1, units_deeper, Around.mark_units, units_caller]); rw [cLine_is]; decide)
    | ktr_units)
  (k_with "fdiv" => (k_dflt (refine' fdiv_k ?fa ?fb ?fc ?_; (case fa => omega); (case fb => bits_by_make); (case fc => decide); k_whole)))
  (k_with "subT" => (k_here; (with_reducible show wpAny _ _ (subscriptTail _ _ (Value.ref _) (Value.int _ _)) _ _ _); k_dflt (refine' item_tupleT ?t ?a ?b ?c ?d ?_; (case t => exact News.isTup (by k_asm) (by k_mem)); (case a => decide); (case b => decide); (case c => rfl); (case d => rfl); k_whole)))
  (k_with "cc" => (k_here; (with_reducible show wpAny _ _ (call (Value.ref 60) _) _ _ _); k_dflt (
   refine' Cl.use (gcd_c _ _ _ _ _ _ _ _ _ ?kp) ?k1 ?k2 ?k3 ?k4 ?k5 ?kK ?kd ?ku ?_;
   (case k1 => k_asm); (case k2 => k_asm); (case k3 => k_asm); (case k4 => k_asm); (case k5 => k_asm); (case kK => first | exact rfl | assumption);
   (case kp => first | assumption | omega); (case kd => k_extra "room"); (case ku => k_extra "units"); intro t9 h9 tk9 F9 N9; (try dsimp only); (try k_fold))))
  (k_with "cc" => (k_here; (with_reducible show wpAny _ _ (call (Value.ref 68) _) _ _ _); k_dflt (
   refine' Cl.use (frac_c _ _ _ _ _ _ _ _ _ ?kp ?kz ?kn) ?k1 ?k2 ?k3 ?k4 ?k5 ?kK ?kd ?ku ?_;
   (case k1 => k_asm); (case k2 => k_asm); (case k3 => k_asm); (case k4 => k_asm); (case k5 => k_asm); (case kK => first | exact rfl | assumption);
   (case kp => first | assumption | omega); (case kz => bits_by_make); (case kn => decide); (case kd => k_extra "room"); (case ku => k_extra "units"); intro D9 t9 u9 c9 h9 tk9 F9 N9 l1; (try k_lt l1); (try dsimp only); (try k_fold))))
  (k_with "cc" => (k_here; (with_reducible show wpAny _ _ (call (Value.ref 89) _) _ _ _); k_dflt (
   refine' Cl.use (times_c _ _ _ _ _ ?kx ?ky ?kP ?kQ ?kz1 ?kz2 ?kz3 ?kz4 ?kn) ?k1 ?k2 ?k3 ?k4 ?k5 ?kK ?kd ?ku ?_;
   (case k1 => k_asm); (case k2 => k_asm); (case k3 => k_asm); (case k4 => k_asm); (case k5 => k_asm); (case kK => first | exact rfl | assumption);
   (case kx => k_mem); (case ky => k_mem); (case kP => first | with_reducible exact ratIs_self _ | with_reducible exact ratIs_int _ | with_reducible assumption | fail "rat_is"); (case kQ => first | with_reducible exact ratIs_self _ | with_reducible exact ratIs_int _ | with_reducible assumption | fail "rat_is"); (case kz1 => bits_by_make); (case kz2 => bits_by_make); (case kz3 => bits_by_make); (case kz4 => bits_by_make);
   (case kn => decide); (case kd => k_extra "room"); (case ku => k_extra "units"); intro D9 t9 u9 c9 h9 tk9 F9 N9 l1; (try k_lt l1); (try dsimp only); (try k_fold))))
  (k_with "cc" => (k_here; (with_reducible show wpAny _ _ (call (Value.ref 75) _) _ _ _); k_dflt (
   refine' Cl.use (plus_c _ _ _ _ _ ?kx ?ky ?kP ?kQ ?kz1 ?kz2 ?kz3 ?kz4 ?kn) ?k1 ?k2 ?k3 ?k4 ?k5 ?kK ?kd ?ku ?_;
   (case k1 => k_asm); (case k2 => k_asm); (case k3 => k_asm); (case k4 => k_asm); (case k5 => k_asm); (case kK => first | exact rfl | assumption);
   (case kx => k_mem); (case ky => k_mem); (case kP => first | with_reducible exact ratIs_self _ | with_reducible exact ratIs_int _ | with_reducible assumption | fail "rat_is"); (case kQ => first | with_reducible exact ratIs_self _ | with_reducible exact ratIs_int _ | with_reducible assumption | fail "rat_is"); (case kz1 => bits_by_make); (case kz2 => bits_by_make); (case kz3 => bits_by_make); (case kz4 => bits_by_make);
   (case kn => decide); (case kd => k_extra "room"); (case ku => k_extra "units"); intro D9 t9 u9 c9 h9 tk9 F9 N9 l1; (try k_lt l1); (try dsimp only); (try k_fold))))
  (k_with "cc" => (k_here; (with_reducible show wpAny _ _ (call (Value.ref 82) _) _ _ _); k_dflt (
   refine' Cl.use (minus_c _ _ _ _ _ ?kx ?ky ?kP ?kQ ?kz1 ?kz2 ?kz3 ?kz4 ?kn) ?k1 ?k2 ?k3 ?k4 ?k5 ?kK ?kd ?ku ?_;
   (case k1 => k_asm); (case k2 => k_asm); (case k3 => k_asm); (case k4 => k_asm); (case k5 => k_asm); (case kK => first | exact rfl | assumption);
   (case kx => k_mem); (case ky => k_mem); (case kP => first | with_reducible exact ratIs_self _ | with_reducible exact ratIs_int _ | with_reducible assumption | fail "rat_is"); (case kQ => first | with_reducible exact ratIs_self _ | with_reducible exact ratIs_int _ | with_reducible assumption | fail "rat_is"); (case kz1 => bits_by_make); (case kz2 => bits_by_make); (case kz3 => bits_by_make); (case kz4 => bits_by_make);
   (case kn => decide); (case kd => k_extra "room"); (case ku => k_extra "units"); intro D9 t9 u9 c9 h9 tk9 F9 N9 l1; (try k_lt l1); (try dsimp only); (try k_fold))))
  (k_with "cc" => (k_here; (with_reducible show wpAny _ _ (call (Value.ref 96) _) _ _ _); k_dflt (
   refine' Cl.use (neg_c _ _ _ _ _ ?kx ?kP) ?k1 ?k2 ?k3 ?k4 ?k5 ?kK ?kd ?ku ?_;
   (case k1 => k_asm); (case k2 => k_asm); (case k3 => k_asm); (case k4 => k_asm); (case k5 => k_asm); (case kK => first | exact rfl | assumption);
   (case kx => k_mem); (case kP => first | with_reducible exact ratIs_self _ | with_reducible exact ratIs_int _ | with_reducible assumption | fail "rat_is");
   (case kd => k_extra "room"); (case ku => k_extra "units"); intro D9 t9 u9 c9 h9 tk9 F9 N9 l1; (try k_lt l1); (try dsimp only); (try k_fold))))
  (k_with "cc" => (k_here; (with_reducible show wpAny _ _ (call (Value.ref 68) _) _ _ _); k_dflt (
   refine' Cl.use (frac_e _ _ _ _ _ _ _ _ _ ?kp ?ky ?kz ?kn) ?k1 ?k2 ?k3 ?k4 ?k5 ?kK ?kd ?ku ?_;
   (case k1 => k_asm); (case k2 => k_asm); (case k3 => k_asm); (case k4 => k_asm); (case k5 => k_asm); (case kK => first | exact rfl | assumption);
   (case kp => first | with_reducible assumption | omega); (case ky => bits_by_make); (case kz => bits_by_make); (case kn => decide); (case kd => k_extra "room"); (case ku => k_extra "units"); intro R9 hS9 D9 t9 u9 c9 h9 tk9 F9 N9 l1; (obtain ⟨hR9, hn9, hd9⟩ := hS9); (try k_extra "frac"); (try k_lt l1); (try dsimp only); (try k_fold))))
  (k_with "cc" => (k_here; (with_reducible show wpAny _ _ (call (Value.ref 89) _) _ _ _); k_dflt (
   refine' Cl.use (times_e _ _ _ _ _ ?kx ?ky ?kP ?kQ ?kz1 ?kz2 ?kz3 ?kz4 ?kn) ?k1 ?k2 ?k3 ?k4 ?k5 ?kK ?kd ?ku ?_;
   (case k1 => k_asm); (case k2 => k_asm); (case k3 => k_asm); (case k4 => k_asm); (case k5 => k_asm); (case kK => first | exact rfl | assumption);
   (case kx => k_mem); (case ky => k_mem); (case kP => first | with_reducible exact ratIs_self _ | with_reducible exact ratIs_int _ | with_reducible assumption | fail "rat_is"); (case kQ => first | with_reducible exact ratIs_self _ | with_reducible exact ratIs_int _ | with_reducible assumption | fail "rat_is"); (case kz1 => bits_by_make); (case kz2 => bits_by_make); (case kz3 => bits_by_make); (case kz4 => bits_by_make);
   (case kn => decide); (case kd => k_extra "room"); (case ku => k_extra "units"); intro R9 hS9 D9 t9 u9 c9 h9 tk9 F9 N9 l1; (obtain ⟨hR9, hn9, hd9⟩ := hS9); (try k_extra "ops"); (try k_lt l1); (try dsimp only); (try k_fold))))
  (k_with "cc" => (k_here; (with_reducible show wpAny _ _ (call (Value.ref 75) _) _ _ _); k_dflt (
   refine' Cl.use (plus_e _ _ _ _ _ ?kx ?ky ?kP ?kQ ?kz1 ?kz2 ?kz3 ?kz4 ?kn) ?k1 ?k2 ?k3 ?k4 ?k5 ?kK ?kd ?ku ?_;
   (case k1 => k_asm); (case k2 => k_asm); (case k3 => k_asm); (case k4 => k_asm); (case k5 => k_asm); (case kK => first | exact rfl | assumption);
   (case kx => k_mem); (case ky => k_mem); (case kP => first | with_reducible exact ratIs_self _ | with_reducible exact ratIs_int _ | with_reducible assumption | fail "rat_is"); (case kQ => first | with_reducible exact ratIs_self _ | with_reducible exact ratIs_int _ | with_reducible assumption | fail "rat_is"); (case kz1 => bits_by_make); (case kz2 => bits_by_make); (case kz3 => bits_by_make); (case kz4 => bits_by_make);
   (case kn => decide); (case kd => k_extra "room"); (case ku => k_extra "units"); intro R9 hS9 D9 t9 u9 c9 h9 tk9 F9 N9 l1; (obtain ⟨hR9, hn9, hd9⟩ := hS9); (try k_extra "ops"); (try k_lt l1); (try dsimp only); (try k_fold))))
  (k_with "cc" => (k_here; (with_reducible show wpAny _ _ (call (Value.ref 82) _) _ _ _); k_dflt (
   refine' Cl.use (minus_e _ _ _ _ _ ?kx ?ky ?kP ?kQ ?kz1 ?kz2 ?kz3 ?kz4 ?kn) ?k1 ?k2 ?k3 ?k4 ?k5 ?kK ?kd ?ku ?_;
   (case k1 => k_asm); (case k2 => k_asm); (case k3 => k_asm); (case k4 => k_asm); (case k5 => k_asm); (case kK => first | exact rfl | assumption);
   (case kx => k_mem); (case ky => k_mem); (case kP => first | with_reducible exact ratIs_self _ | with_reducible exact ratIs_int _ | with_reducible assumption | fail "rat_is"); (case kQ => first | with_reducible exact ratIs_self _ | with_reducible exact ratIs_int _ | with_reducible assumption | fail "rat_is"); (case kz1 => bits_by_make); (case kz2 => bits_by_make); (case kz3 => bits_by_make); (case kz4 => bits_by_make);
   (case kn => decide); (case kd => k_extra "room"); (case ku => k_extra "units"); intro R9 hS9 D9 t9 u9 c9 h9 tk9 F9 N9 l1; (obtain ⟨hR9, hn9, hd9⟩ := hS9); (try k_extra "ops"); (try k_lt l1); (try dsimp only); (try k_fold))))
  (k_with "cc" => (k_here; (with_reducible show wpAny _ _ (call (Value.ref 96) _) _ _ _); k_dflt (
   refine' Cl.use (neg_e _ _ _ _ _ ?kx ?kP ?kz1 ?kz2) ?k1 ?k2 ?k3 ?k4 ?k5 ?kK ?kd ?ku ?_;
   (case k1 => k_asm); (case k2 => k_asm); (case k3 => k_asm); (case k4 => k_asm); (case k5 => k_asm); (case kK => first | exact rfl | assumption);
   (case kx => k_mem); (case kP => first | with_reducible exact ratIs_self _ | with_reducible exact ratIs_int _ | with_reducible assumption | fail "rat_is"); (case kz1 => bits_by_make); (case kz2 => bits_by_make);
   (case kd => k_extra "room"); (case ku => k_extra "units"); intro R9 hS9 D9 t9 u9 c9 h9 tk9 F9 N9 l1; (obtain ⟨hR9, hn9, hd9⟩ := hS9); (try k_extra "ops"); (try k_lt l1); (try dsimp only); (try k_fold))))
  (k_with "bbm" => (k_extra "bits"))
  (k_with "fdiv" => (k_dflt (refine' fdiv_k ?fa ?fb ?fc ?_; (case fa => exact fr_ne (by assumption) (by assumption) (by assumption) (by assumption) (by assumption)); (case fb => exact fr_bits (by assumption) (by assumption) (by assumption) (by assumption) (by assumption) (by assumption)); (case fc => decide); k_whole)))
  k_dflt cell_enter
  k_steps
  all_goals first | exact ret_bool hret (by first | rfl | simp_all | omega) (by assumption) (by assumption) (fun p hp => hp) | (exfalso; omega) | skip
theorem lfrac_e (w : World) (mean : ExcName → Option Value) (mg mb : Str → Option Value) (news : Led) (x y : Int) (tx ty : Tok) (hy : 0 < y) {k n : Nat} (hx : intBits x ≤ k) (hz : intBits y ≤ n) (hn : n ≤ 8000) :
    Cl w mean mg mb 250 [.int x tx, .int y ty] news 1 (RTupE (fun R => R = Rat.divInt x y ∧ intBits R.num ≤ k ∧ intBits (R.den : Int) ≤ n) news) :=
  Cl.mono (lfrac_c w mean mg mb news x y tx ty hy hz hn) fun _ _ _ _ _ r => r _ ⟨rfl, bits_dnum hy hx, bits_dden hy hz⟩
theorem lt_cancel {a b k : Int} (hk : 0 < k) (h : a * k < b * k) : a < b := Int.lt_of_mul_lt_mul_right h (by omega)
theorem le_cancel {a b k : Int} (hk : 0 < k) (h : a * k ≤ b * k) : a ≤ b := Int.le_of_mul_le_mul_right h hk
theorem div_eq {X r : Int} {R : Rat} (hr : 0 < r) (h : R = Rat.divInt X r) : R.num * r = X * (R.den : Int) := by
  have h1 : Rat.divInt R.num R.den = Rat.divInt X r := by rw [Rat.num_divInt_den]; exact h
  have h2 := R.den_pos
  exact (Rat.divInt_eq_divInt_iff (by omega) (by omega)).mp h1
theorem root_mono {a b : Int} (hb : 0 ≤ b) (h : a * a < (b + 1) * (b + 1)) : a ≤ b := by
  rcases (show a ≤ b ∨ b + 1 ≤ a by omega) with e | e
  · exact e
  · have := Int.mul_le_mul e e (by omega) (by omega)
    omega
theorem root_big {s r : Int} (hs : 0 < s) (h : IsRoot (s * 65536 * 65536) r) : 65536 ≤ r := root_mono h.1 (by have := h.2.2; omega)
theorem root_gap {s r : Int} (hs : 0 < s) (h : IsRoot (s * 65536 * 65536) r) : (s * 65536 * 65536 - r * r) * 16384 < r * r := by
  have h1 := root_big hs h
  have h2 := h.2.2
  have h3 : (r + 1) * (r + 1) = r * r + 2 * r + 1 := by grind
  have h4 : 65536 * r ≤ r * r := Int.mul_le_mul_of_nonneg_right h1 (by omega)
  omega
theorem turn_near {x y r a b c d : Int} (hs : 0 < x * x + y * y) (hr : IsRoot ((x * x + y * y) * 65536 * 65536) r) (hb : 0 < b) (hd : 0 < d) (hA : a * r = 65536 * x * b) (hC : c * r = 65536 * y * d) :
    b * b * d * d ≤ a * a * d * d + c * c * b * b ∧ (a * a * d * d + c * c * b * b - b * b * d * d) * 16384 < b * b * d * d := by
  have h1 := root_big hs hr
  have h2 := root_gap hs hr
  have h3 := hr.2.1
  have hB : 0 < b * b * d * d := Int.mul_pos (Int.mul_pos (Int.mul_pos hb hb) hd) hd
  have hT : (a * a * d * d + c * c * b * b) * (r * r) = (x * x + y * y) * 65536 * 65536 * (b * b * d * d) := by
    have e1 : (a * a * d * d + c * c * b * b) * (r * r) = (a * r) * (a * r) * d * d + (c * r) * (c * r) * b * b := by grind
    rw [e1, hA, hC]
    grind
  have hrr : 0 < r * r := Int.mul_pos (by omega) (by omega)
  generalize (x * x + y * y) * 65536 * 65536 = N at *
  generalize a * a * d * d + c * c * b * b = T at *
  generalize b * b * d * d = B at *
  generalize r * r = q at *
  constructor
  · refine le_cancel hrr ?_
    rw [hT, Int.mul_comm N]
    exact Int.mul_le_mul_of_nonneg_left h3 (by omega)
  · refine lt_cancel hrr ?_
    have e2 : (T - B) * 16384 * q = (N - q) * 16384 * B := by grind
    rw [e2, Int.mul_comm B q]
    exact Int.mul_lt_mul_of_pos_right h2 hB
theorem nonneg_cancel {a r : Int} (hr : 0 < r) (h : 0 ≤ a * r) : 0 ≤ a := le_cancel hr (by omega)
theorem turn_way {x y r a b c d : Int} (h1 : 0 < r) (hb : 0 < b) (hd : 0 < d) (hA : a * r = 65536 * x * b) (hC : c * r = 65536 * y * d) :
    a * d * y = c * b * x ∧ 0 ≤ a * x ∧ 0 ≤ c * y := by
  refine ⟨?_, ?_, ?_⟩
  · refine Int.eq_of_mul_eq_mul_right (a := r) (by omega) ?_
    have e1 : a * d * y * r = (a * r) * d * y := by grind
    have e2 : c * b * x * r = (c * r) * b * x := by grind
    rw [e1, e2, hA, hC]
    grind
  · refine nonneg_cancel h1 ?_
    have e1 : a * x * r = (a * r) * x := by grind
    have e2 : 65536 * x * b * x = 65536 * (x * x) * b := by grind
    rw [e1, hA, e2]
    exact Int.mul_nonneg (Int.mul_nonneg (by decide) (sq_nn x)) (by omega)
  · refine nonneg_cancel h1 ?_
    have e1 : c * y * r = (c * r) * y := by grind
    have e2 : 65536 * y * d * y = 65536 * (y * y) * d := by grind
    rw [e1, hC, e2]
    exact Int.mul_nonneg (Int.mul_nonneg (by decide) (sq_nn y)) (by omega)
theorem turn_whole {x y r L : Int} (hL : 0 < L) (he : L * L = x * x + y * y) (hr : IsRoot ((x * x + y * y) * 65536 * 65536) r) : r = 65536 * L := by
  rw [← he] at hr
  obtain ⟨h0, h1, h2⟩ := hr
  have e : L * L * 65536 * 65536 = (65536 * L) * (65536 * L) := by grind
  rw [e] at h1 h2
  have h3 := root_mono h0 h2
  have h4 : r ≤ 65536 * L := root_mono (by omega) (by
    have : (65536 * L + 1) * (65536 * L + 1) = (65536 * L) * (65536 * L) + 2 * (65536 * L) + 1 := by grind
    omega)
  omega
theorem turn_facts {x y x' y' r : Int} {R1 R2 : Rat} (ex : x' = x) (ey : y' = y) (hxy : 0 < x' * x' + y' * y') (h1 : R1 = Rat.divInt (65536 * x') r) (h2 : R2 = Rat.divInt (65536 * y') r) (hr : IsRoot ((x' * x' + y' * y') * 65536 * 65536) r) :
    (R1.num * (R2.den : Int) * y = R2.num * (R1.den : Int) * x ∧ 0 ≤ R1.num * x ∧ 0 ≤ R2.num * y) ∧
    ((R1.den : Int) * (R1.den : Int) * (R2.den : Int) * (R2.den : Int) ≤ R1.num * R1.num * (R2.den : Int) * (R2.den : Int) + R2.num * R2.num * (R1.den : Int) * (R1.den : Int) ∧
      (R1.num * R1.num * (R2.den : Int) * (R2.den : Int) + R2.num * R2.num * (R1.den : Int) * (R1.den : Int) - (R1.den : Int) * (R1.den : Int) * (R2.den : Int) * (R2.den : Int)) * 16384 < (R1.den : Int) * (R1.den : Int) * (R2.den : Int) * (R2.den : Int)) := by
  subst ex ey
  have h0 := root_big hxy hr
  have hA := div_eq (by omega) h1
  have hC := div_eq (by omega) h2
  have hb := R1.den_pos
  have hd := R2.den_pos
  exact ⟨turn_way (by omega) (by omega) (by omega) hA hC, turn_near hxy hr (by omega) (by omega) hA hC⟩
theorem whole_eq {x x' r L : Int} {R S : Rat} (ex : x' = x) (hn : r = 65536 * L) (h1 : R = Rat.divInt (65536 * x') r) (h3 : S = Rat.divInt x L) : S = R := by
  subst ex hn
  rw [h1, h3, Rat.divInt_mul_left (by decide)]
theorem whole_x {x y x' y' r L : Int} {R S : Rat} (ex : x' = x) (ey : y' = y) (h3 : S = Rat.divInt x L) (h1 : R = Rat.divInt (65536 * x') r) (hr : IsRoot ((x' * x' + y' * y') * 65536 * 65536) r) (he : L * L = x * x + y * y) (hL : 0 < L) : S = R := by
  subst ex ey
  exact whole_eq rfl (turn_whole hL he hr) h1 h3
theorem whole_y {x y x' y' r L : Int} {R S : Rat} (ex : x' = x) (ey : y' = y) (h3 : S = Rat.divInt y L) (h1 : R = Rat.divInt (65536 * y') r) (hr : IsRoot ((x' * x' + y' * y') * 65536 * 65536) r) (he : L * L = x * x + y * y) (hL : 0 < L) : S = R := by
  subst ex ey
  exact whole_eq rfl (turn_whole hL he hr) h1 h3
theorem keep1 {h₀ : Heap} {L : Addr} {h : Heap} {a : Addr × Obj} {l k : Led} (N : News h₀ L h (a :: l)) (hs : ∀ p ∈ k, p ∈ l) : News h₀ L h (a :: k) := by
  intro p hp
  rcases List.mem_cons.mp hp with rfl | hp
  · exact N _ (.head _)
  · exact N p (.tail _ (hs p hp))
theorem drop_2 {h₀ : Heap} {L : Addr} {h : Heap} {a d : Addr × Obj} {l : Led} (N : News h₀ L h (a :: d :: l)) : News h₀ L h (a :: l) := keep1 N fun _ hp => .tail _ hp
theorem drop_23 {h₀ : Heap} {L : Addr} {h : Heap} {a d e : Addr × Obj} {l : Led} (N : News h₀ L h (a :: d :: e :: l)) : News h₀ L h (a :: l) := keep1 N fun _ hp => .tail _ (.tail _ hp)
theorem isSub {R U V : Rat} (_ : R = U - V) : True := trivial
theorem isNeg {R U : Rat} (_ : R = -U) : True := trivial
theorem isSum {R U V A B C D : Rat} (_ : R = U + V) (_ : U = A * B) (_ : V = C * D) : True := trivial
theorem drop5_2 {h₀ : Heap} {L : Addr} {h : Heap} {a1 a2 a3 a4 a5 d1 d2 : Addr × Obj} {l : Led} (N : News h₀ L h (a1 :: a2 :: a3 :: a4 :: a5 :: d1 :: d2 :: l)) : News h₀ L h (a1 :: a2 :: a3 :: a4 :: a5 :: l) :=
  cb_drop N (List.forall_mem_cons.mpr ⟨.head _, List.forall_mem_cons.mpr ⟨.tail _ (.head _), List.forall_mem_cons.mpr ⟨.tail _ (.tail _ (.head _)), List.forall_mem_cons.mpr ⟨.tail _ (.tail _ (.tail _ (.head _))), List.forall_mem_cons.mpr ⟨.tail _ (.tail _ (.tail _ (.tail _ (.head _)))), fun _ hp => .tail _ (.tail _ (.tail _ (.tail _ (.tail _ (.tail _ (.tail _ hp))))))⟩⟩⟩⟩⟩)
theorem drop4_5 {h₀ : Heap} {L : Addr} {h : Heap} {a1 a2 a3 a4 d1 d2 d3 d4 d5 : Addr × Obj} {l : Led} (N : News h₀ L h (a1 :: a2 :: a3 :: a4 :: d1 :: d2 :: d3 :: d4 :: d5 :: l)) : News h₀ L h (a1 :: a2 :: a3 :: a4 :: l) :=
  cb_drop N (List.forall_mem_cons.mpr ⟨.head _, List.forall_mem_cons.mpr ⟨.tail _ (.head _), List.forall_mem_cons.mpr ⟨.tail _ (.tail _ (.head _)), List.forall_mem_cons.mpr ⟨.tail _ (.tail _ (.tail _ (.head _))), fun _ hp => .tail _ (.tail _ (.tail _ (.tail _ (.tail _ (.tail _ (.tail _ (.tail _ (.tail _ hp))))))))⟩⟩⟩⟩)
abbrev RSide (w : World) (b : Addr) (X Y g : Int) (tg : Tok) (news : Led) : Heap → Addr → (Str → Option Value) → Shared → (Value → Shared → Prop) → Prop :=
  fun h₀ L m s Q => ∀ (r : Int) (I dI wy : Addr) (k1 k2 k3 k4 u1 u2 u3 : Tok) (cw : Nat) (h' : Heap) (tk' : Nat), IsRoot (X * X + Y * Y) r → Fr h₀ L h' m →
    News h₀ L h' ((I, instObj 211 dI) :: (dI, dictOf [{ hash := PyData.keyHash w.params (Str.ofString "one"), key := Value.str (Str.ofString "one") k1, val := Value.ref b }, { hash := PyData.keyHash w.params (Str.ofString "way"), key := Value.str (Str.ofString "way") k2, val := Value.ref wy }, { hash := PyData.keyHash w.params (Str.ofString "length"), key := Value.str (Str.ofString "length") k3, val := Value.int r u3 }, { hash := PyData.keyHash w.params (Str.ofString "begin"), key := Value.str (Str.ofString "begin") k4, val := Value.int g tg }] 4) ::
      (wy, ({ cls := .type "tuple", data := .seq #[.int X u1, .int Y u2] cw } : Obj)) :: news) → Q (.ref I) { s with heap := h', toks := tk' }
set_option maxHeartbeats 8000000 in
theorem side_c (w : World) (mean : ExcName → Option Value) (mg mb : Str → Option Value) (news : Led) {b v : Addr} {p q x y : Int} {t1 t2 t3 t4 : Tok} {c c' : Nat} {g : Int} {tg : Tok}
    (hb : (b, ({ cls := .type "tuple", data := .seq #[.int p t1, .int q t2] c } : Obj)) ∈ news) (hv : (v, ({ cls := .type "tuple", data := .seq #[.int x t3, .int y t4] c' } : Obj)) ∈ news)
    (hz : intBits ((x - p) * (x - p) + (y - q) * (y - q)) ≤ 129) (z1 : intBits p ≤ 70) (z2 : intBits q ≤ 70) (z3 : intBits x ≤ 70) (z4 : intBits y ≤ 70) :
    Cl w mean mg mb 211 [.ref b, .ref v, .int g tg] news 10 (RSide w b (x - p) (y - q) g tg news) := by
  unfold Cl RSide
  k_fill
  intro dp un gd cn cs a ccd cl outer A₀ base h₀ L m s Q E B F X N T hk hdp hun hret
  k_with_none
  (k_with "bbm" => (first
  | with_reducible assumption
  | ((with_reducible apply bits_mnum) <;> bits_by_make)
  | ((with_reducible apply bits_mden) <;> bits_by_make)
  | ((with_reducible apply bits_anum) <;> bits_by_make)
  | ((with_reducible apply bits_aden) <;> bits_by_make)
  | ((with_reducible apply bits_snum) <;> bits_by_make)
  | ((with_reducible apply bits_sden) <;> bits_by_make)
  | ((with_reducible apply bits_nnum) <;> bits_by_make)
  | ((with_reducible apply bits_nden) <;> bits_by_make)
  | fail "bits"))
  (k_with "enter" => ((refine' code_def ?k1 ?k2 ?k3 ?k4 ?k5 ?kA ?kF ?kK ?k6 ?k7 ?k8 ?k9 ?kB ?_ ?c2 ?c3 ?c4 ?c5; (case kA => exact rfl); (case kF => exact rfl); (case kK => assumption); (case k1 => k_asm); (case k2 => k_asm); (case k3 => k_asm); (case k4 => k_asm); (case k5 => k_asm); (case k6 => k_is); (case k7 => k_is); (case k8 => k_extra "room"); (case k9 => first | exact BindsTo.of_eq rfl | exact binds_K (by k_in) rfl (by k_is) rfl rfl rfl); (case c5 => decide); (case kB => exact locs rfl); (case c2 => exact rfl); (case c3 => exact rfl); (case c4 => exact rfl); k_whole; intro g' L' h' FG' F' N' B' X' T'; (try dsimp only); (try k_lift B'); (try k_fold))))
  (k_with "room" => first
    | ((try simp only [depth_under_make, depth_under_kw, depth_in1, depth_deeper, depth_caller]); decide)
    | ((try simp only [depth_under_make, depth_under_kw, depth_in1, depth_deeper, depth_caller]); (try dsimp only [ktrTop]); refine Nat.lt_of_le_of_lt ?_ hdp; (try simp only [Nat.add_assoc]); exact Nat.add_le_add_left (by decide) _)
    | ktr_room)
  (k_with "units" => first
    | ((simp only [units_under_make, units_in1, units_deeper, Around.mark_units, units_caller]); (try dsimp only [ktrTop]); refine Nat.lt_of_le_of_lt ?_ hun; (try simp only [Nat.add_assoc]); exact Nat.add_le_add_left (by decide) _)
    | ((simp only [units_under_make, units_in1, units_deeper, Around.mark_units, units_caller]); rw [cLine_is]; decide)
    | ktr_units)
  (k_with "fdiv" => (k_dflt (refine' fdiv_k ?fa ?fb ?fc ?_; (case fa => omega); (case fb => bits_by_make); (case fc => decide); k_whole)))
  (k_with "subT" => (k_here; (with_reducible show wpAny _ _ (subscriptTail _ _ (Value.ref _) (Value.int _ _)) _ _ _); k_dflt (refine' item_tupleT ?t ?a ?b ?c ?d ?_; (case t => exact News.isTup (by k_asm) (by k_mem)); (case a => decide); (case b => decide); (case c => rfl); (case d => rfl); k_whole)))
  (k_with "cc" => (k_here; (with_reducible show wpAny _ _ (call (Value.ref 60) _) _ _ _); k_dflt (
   refine' Cl.use (gcd_c _ _ _ _ _ _ _ _ _ ?kp) ?k1 ?k2 ?k3 ?k4 ?k5 ?kK ?kd ?ku ?_;
   (case k1 => k_asm); (case k2 => k_asm); (case k3 => k_asm); (case k4 => k_asm); (case k5 => k_asm); (case kK => first | exact rfl | assumption);
   (case kp => first | assumption | omega); (case kd => k_extra "room"); (case ku => k_extra "units"); intro t9 h9 tk9 F9 N9; (try dsimp only); (try k_fold))))
  (k_with "cc" => (k_here; (with_reducible show wpAny _ _ (call (Value.ref 68) _) _ _ _); k_dflt (
   refine' Cl.use (frac_c _ _ _ _ _ _ _ _ _ ?kp ?kz ?kn) ?k1 ?k2 ?k3 ?k4 ?k5 ?kK ?kd ?ku ?_;
   (case k1 => k_asm); (case k2 => k_asm); (case k3 => k_asm); (case k4 => k_asm); (case k5 => k_asm); (case kK => first | exact rfl | assumption);
   (case kp => first | assumption | omega); (case kz => bits_by_make); (case kn => decide); (case kd => k_extra "room"); (case ku => k_extra "units"); intro D9 t9 u9 c9 h9 tk9 F9 N9 l1; (try k_lt l1); (try dsimp only); (try k_fold))))
  (k_with "cc" => (k_here; (with_reducible show wpAny _ _ (call (Value.ref 89) _) _ _ _); k_dflt (
   refine' Cl.use (times_c _ _ _ _ _ ?kx ?ky ?kP ?kQ ?kz1 ?kz2 ?kz3 ?kz4 ?kn) ?k1 ?k2 ?k3 ?k4 ?k5 ?kK ?kd ?ku ?_;
   (case k1 => k_asm); (case k2 => k_asm); (case k3 => k_asm); (case k4 => k_asm); (case k5 => k_asm); (case kK => first | exact rfl | assumption);
   (case kx => k_mem); (case ky => k_mem); (case kP => first | with_reducible exact ratIs_self _ | with_reducible exact ratIs_int _ | with_reducible assumption | fail "rat_is"); (case kQ => first | with_reducible exact ratIs_self _ | with_reducible exact ratIs_int _ | with_reducible assumption | fail "rat_is"); (case kz1 => bits_by_make); (case kz2 => bits_by_make); (case kz3 => bits_by_make); (case kz4 => bits_by_make);
   (case kn => decide); (case kd => k_extra "room"); (case ku => k_extra "units"); intro D9 t9 u9 c9 h9 tk9 F9 N9 l1; (try k_lt l1); (try dsimp only); (try k_fold))))
  (k_with "cc" => (k_here; (with_reducible show wpAny _ _ (call (Value.ref 75) _) _ _ _); k_dflt (
   refine' Cl.use (plus_c _ _ _ _ _ ?kx ?ky ?kP ?kQ ?kz1 ?kz2 ?kz3 ?kz4 ?kn) ?k1 ?k2 ?k3 ?k4 ?k5 ?kK ?kd ?ku ?_;
   (case k1 => k_asm); (case k2 => k_asm); (case k3 => k_asm); (case k4 => k_asm); (case k5 => k_asm); (case kK => first | exact rfl | assumption);
   (case kx => k_mem); (case ky => k_mem); (case kP => first | with_reducible exact ratIs_self _ | with_reducible exact ratIs_int _ | with_reducible assumption | fail "rat_is"); (case kQ => first | with_reducible exact ratIs_self _ | with_reducible exact ratIs_int _ | with_reducible assumption | fail "rat_is"); (case kz1 => bits_by_make); (case kz2 => bits_by_make); (case kz3 => bits_by_make); (case kz4 => bits_by_make);
   (case kn => decide); (case kd => k_extra "room"); (case ku => k_extra "units"); intro D9 t9 u9 c9 h9 tk9 F9 N9 l1; (try k_lt l1); (try dsimp only); (try k_fold))))
  (k_with "cc" => (k_here; (with_reducible show wpAny _ _ (call (Value.ref 82) _) _ _ _); k_dflt (
   refine' Cl.use (minus_c _ _ _ _ _ ?kx ?ky ?kP ?kQ ?kz1 ?kz2 ?kz3 ?kz4 ?kn) ?k1 ?k2 ?k3 ?k4 ?k5 ?kK ?kd ?ku ?_;
   (case k1 => k_asm); (case k2 => k_asm); (case k3 => k_asm); (case k4 => k_asm); (case k5 => k_asm); (case kK => first | exact rfl | assumption);
   (case kx => k_mem); (case ky => k_mem); (case kP => first | with_reducible exact ratIs_self _ | with_reducible exact ratIs_int _ | with_reducible assumption | fail "rat_is"); (case kQ => first | with_reducible exact ratIs_self _ | with_reducible exact ratIs_int _ | with_reducible assumption | fail "rat_is"); (case kz1 => bits_by_make); (case kz2 => bits_by_make); (case kz3 => bits_by_make); (case kz4 => bits_by_make);
   (case kn => decide); (case kd => k_extra "room"); (case ku => k_extra "units"); intro D9 t9 u9 c9 h9 tk9 F9 N9 l1; (try k_lt l1); (try dsimp only); (try k_fold))))
  (k_with "cc" => (k_here; (with_reducible show wpAny _ _ (call (Value.ref 96) _) _ _ _); k_dflt (
   refine' Cl.use (neg_c _ _ _ _ _ ?kx ?kP) ?k1 ?k2 ?k3 ?k4 ?k5 ?kK ?kd ?ku ?_;
   (case k1 => k_asm); (case k2 => k_asm); (case k3 => k_asm); (case k4 => k_asm); (case k5 => k_asm); (case kK => first | exact rfl | assumption);
   (case kx => k_mem); (case kP => first | with_reducible exact ratIs_self _ | with_reducible exact ratIs_int _ | with_reducible assumption | fail "rat_is");
   (case kd => k_extra "room"); (case ku => k_extra "units"); intro D9 t9 u9 c9 h9 tk9 F9 N9 l1; (try k_lt l1); (try dsimp only); (try k_fold))))
  (k_with "cc" => (k_here; (with_reducible show wpAny _ _ (call (Value.ref 68) _) _ _ _); k_dflt (
   refine' Cl.use (frac_e _ _ _ _ _ _ _ _ _ ?kp ?ky ?kz ?kn) ?k1 ?k2 ?k3 ?k4 ?k5 ?kK ?kd ?ku ?_;
   (case k1 => k_asm); (case k2 => k_asm); (case k3 => k_asm); (case k4 => k_asm); (case k5 => k_asm); (case kK => first | exact rfl | assumption);
   (case kp => first | with_reducible assumption | omega); (case ky => bits_by_make); (case kz => bits_by_make); (case kn => decide); (case kd => k_extra "room"); (case ku => k_extra "units"); intro R9 hS9 D9 t9 u9 c9 h9 tk9 F9 N9 l1; (obtain ⟨hR9, hn9, hd9⟩ := hS9); (try k_extra "frac"); (try k_lt l1); (try dsimp only); (try k_fold))))
  (k_with "cc" => (k_here; (with_reducible show wpAny _ _ (call (Value.ref 89) _) _ _ _); k_dflt (
   refine' Cl.use (times_e _ _ _ _ _ ?kx ?ky ?kP ?kQ ?kz1 ?kz2 ?kz3 ?kz4 ?kn) ?k1 ?k2 ?k3 ?k4 ?k5 ?kK ?kd ?ku ?_;
   (case k1 => k_asm); (case k2 => k_asm); (case k3 => k_asm); (case k4 => k_asm); (case k5 => k_asm); (case kK => first | exact rfl | assumption);
   (case kx => k_mem); (case ky => k_mem); (case kP => first | with_reducible exact ratIs_self _ | with_reducible exact ratIs_int _ | with_reducible assumption | fail "rat_is"); (case kQ => first | with_reducible exact ratIs_self _ | with_reducible exact ratIs_int _ | with_reducible assumption | fail "rat_is"); (case kz1 => bits_by_make); (case kz2 => bits_by_make); (case kz3 => bits_by_make); (case kz4 => bits_by_make);
   (case kn => decide); (case kd => k_extra "room"); (case ku => k_extra "units"); intro R9 hS9 D9 t9 u9 c9 h9 tk9 F9 N9 l1; (obtain ⟨hR9, hn9, hd9⟩ := hS9); (try k_extra "ops"); (try k_lt l1); (try dsimp only); (try k_fold))))
  (k_with "cc" => (k_here; (with_reducible show wpAny _ _ (call (Value.ref 75) _) _ _ _); k_dflt (
   refine' Cl.use (plus_e _ _ _ _ _ ?kx ?ky ?kP ?kQ ?kz1 ?kz2 ?kz3 ?kz4 ?kn) ?k1 ?k2 ?k3 ?k4 ?k5 ?kK ?kd ?ku ?_;
   (case k1 => k_asm); (case k2 => k_asm); (case k3 => k_asm); (case k4 => k_asm); (case k5 => k_asm); (case kK => first | exact rfl | assumption);
   (case kx => k_mem); (case ky => k_mem); (case kP => first | with_reducible exact ratIs_self _ | with_reducible exact ratIs_int _ | with_reducible assumption | fail "rat_is"); (case kQ => first | with_reducible exact ratIs_self _ | with_reducible exact ratIs_int _ | with_reducible assumption | fail "rat_is"); (case kz1 => bits_by_make); (case kz2 => bits_by_make); (case kz3 => bits_by_make); (case kz4 => bits_by_make);
   (case kn => decide); (case kd => k_extra "room"); (case ku => k_extra "units"); intro R9 hS9 D9 t9 u9 c9 h9 tk9 F9 N9 l1; (obtain ⟨hR9, hn9, hd9⟩ := hS9); (try k_extra "ops"); (try k_lt l1); (try dsimp only); (try k_fold))))
  (k_with "cc" => (k_here; (with_reducible show wpAny _ _ (call (Value.ref 82) _) _ _ _); k_dflt (
   refine' Cl.use (minus_e _ _ _ _ _ ?kx ?ky ?kP ?kQ ?kz1 ?kz2 ?kz3 ?kz4 ?kn) ?k1 ?k2 ?k3 ?k4 ?k5 ?kK ?kd ?ku ?_;
   (case k1 => k_asm); (case k2 => k_asm); (case k3 => k_asm); (case k4 => k_asm); (case k5 => k_asm); (case kK => first | exact rfl | assumption);
   (case kx => k_mem); (case ky => k_mem); (case kP => first | with_reducible exact ratIs_self _ | with_reducible exact ratIs_int _ | with_reducible assumption | fail "rat_is"); (case kQ => first | with_reducible exact ratIs_self _ | with_reducible exact ratIs_int _ | with_reducible assumption | fail "rat_is"); (case kz1 => bits_by_make); (case kz2 => bits_by_make); (case kz3 => bits_by_make); (case kz4 => bits_by_make);
   (case kn => decide); (case kd => k_extra "room"); (case ku => k_extra "units"); intro R9 hS9 D9 t9 u9 c9 h9 tk9 F9 N9 l1; (obtain ⟨hR9, hn9, hd9⟩ := hS9); (try k_extra "ops"); (try k_lt l1); (try dsimp only); (try k_fold))))
  (k_with "cc" => (k_here; (with_reducible show wpAny _ _ (call (Value.ref 96) _) _ _ _); k_dflt (
   refine' Cl.use (neg_e _ _ _ _ _ ?kx ?kP ?kz1 ?kz2) ?k1 ?k2 ?k3 ?k4 ?k5 ?kK ?kd ?ku ?_;
   (case k1 => k_asm); (case k2 => k_asm); (case k3 => k_asm); (case k4 => k_asm); (case k5 => k_asm); (case kK => first | exact rfl | assumption);
   (case kx => k_mem); (case kP => first | with_reducible exact ratIs_self _ | with_reducible exact ratIs_int _ | with_reducible assumption | fail "rat_is"); (case kz1 => bits_by_make); (case kz2 => bits_by_make);
   (case kd => k_extra "room"); (case ku => k_extra "units"); intro R9 hS9 D9 t9 u9 c9 h9 tk9 F9 N9 l1; (obtain ⟨hR9, hn9, hd9⟩ := hS9); (try k_extra "ops"); (try k_lt l1); (try dsimp only); (try k_fold))))
  (k_with "bbm" => (k_extra "bits"))
  (k_with "fdiv" => (k_dflt (refine' fdiv_k ?fa ?fb ?fc ?_; (case fa => exact fr_ne (by assumption) (by assumption) (by assumption) (by assumption) (by assumption)); (case fb => exact fr_bits (by assumption) (by assumption) (by assumption) (by assumption) (by assumption) (by assumption)); (case fc => decide); k_whole)))
  (k_with "cc" => (k_here; (with_reducible show wpAny _ _ (call (Value.ref 103) _) _ _ _); k_dflt (
   refine' Cl.use (root_c _ _ _ _ _ _ _ ?kp ?kz ?kn) ?k1 ?k2 ?k3 ?k4 ?k5 ?kK ?kd ?ku ?_;
   (case k1 => k_asm); (case k2 => k_asm); (case k3 => k_asm); (case k4 => k_asm); (case k5 => k_asm); (case kK => first | exact rfl | assumption);
   (case kp => first | with_reducible exact sq2_nn _ _ | with_reducible exact sqp_nn _ _ | omega); (case kz => bits_by_make); (case kn => decide); (case kd => k_extra "room"); (case ku => k_extra "units"); intro r9 t9 h9 tk9 hS9 F9 N9; (try k_extra "root"); (try dsimp only); (try k_fold))))
  (k_with "cc" => (k_here; (with_reducible show wpAny _ _ (call (Value.ref 250) _) _ _ _); k_dflt (
   refine' Cl.use (lfrac_e _ _ _ _ _ _ _ _ _ ?kp ?ky ?kz ?kn) ?k1 ?k2 ?k3 ?k4 ?k5 ?kK ?kd ?ku ?_;
   (case k1 => k_asm); (case k2 => k_asm); (case k3 => k_asm); (case k4 => k_asm); (case k5 => k_asm); (case kK => first | exact rfl | assumption);
   (case kp => first | with_reducible assumption | k_extra "pos" | omega); (case ky => bits_by_make); (case kz => bits_by_make); (case kn => decide); (case kd => k_extra "room"); (case ku => k_extra "units"); intro R9 hS9 D9 t9 u9 c9 h9 tk9 F9 N9 l1; (obtain ⟨hR9, hn9, hd9⟩ := hS9); (try k_extra "lfrac"); (try k_lt l1); (try dsimp only); (try k_fold))))
  (k_with "cc" => (k_here; (with_reducible show wpAny _ _ (call (Value.ref 257) _) _ _ _); k_dflt (
   refine' Cl.use (near_c _ _ _ _ _ _ _ _ _ ?kp) ?k1 ?k2 ?k3 ?k4 ?k5 ?kK ?kd ?ku ?_;
   (case k1 => k_asm); (case k2 => k_asm); (case k3 => k_asm); (case k4 => k_asm); (case k5 => k_asm); (case kK => first | exact rfl | assumption);
   (case kp => first | assumption | k_extra "near"); (case kd => k_extra "room"); (case ku => k_extra "units"); intro h9 tk9 F9 N9; (try dsimp only); (try k_fold))))
  (k_with "mem" => first | exact hb | exact hv)
  (k_with "cc" => (k_here; (with_reducible show wpAny _ _ (call (Value.ref 211) _) _ _ _); k_dflt (
   refine' call_cls ?k1 ?k2 ?k3 ?k4 ?k5 ?k6 ?_; (case k1 => k_asm); (case k2 => k_asm); (case k3 => k_asm); (case k4 => k_is); (case k5 => k_is); (case k6 => k_is); k_whole; intro x' d' h' F' N' l1 l2; (try k_lt l1); (try k_lt2 l2); (try k_sweep); cell_enter)))
  repeat' (first | (k_unfold; (try dsimp only)) | ((with_reducible show wpAny _ _ (exec _ _) _ _ _); k_fold; walk1) | walk1 | (dsimp only; walk1) | fail "no step")
  all_goals (
    refine' hret _ _ _ _ _ _ _ _ _ _ _ _ _ _ (by assumption) (by assumption) (cb_drop (by assumption) ?hN)
    case hN =>
      refine List.forall_mem_cons.mpr ⟨by k_mem, List.forall_mem_cons.mpr ⟨by k_mem, List.forall_mem_cons.mpr ⟨by k_mem, ?_⟩⟩⟩
      intro p hp
      repeat (first | exact hp | apply List.mem_cons_of_mem))
theorem side_e (w : World) (mean : ExcName → Option Value) (mg mb : Str → Option Value) (news : Led) {b v : Addr} {p q x y X Y : Int} {t1 t2 t3 t4 : Tok} {c c' : Nat} {g : Int} {tg : Tok}
    (hb : (b, ({ cls := .type "tuple", data := .seq #[.int p t1, .int q t2] c } : Obj)) ∈ news) (hv : (v, ({ cls := .type "tuple", data := .seq #[.int x t3, .int y t4] c' } : Obj)) ∈ news)
    (hX : x - p = X) (hY : y - q = Y) (hz1 : intBits X ≤ 64) (hz2 : intBits Y ≤ 64) (z1 : intBits p ≤ 70) (z2 : intBits q ≤ 70) (z3 : intBits x ≤ 70) (z4 : intBits y ≤ 70) :
    Cl w mean mg mb 211 [.ref b, .ref v, .int g tg] news 10 (RSide w b X Y g tg news) := by
  subst hX hY
  exact side_c w mean mg mb news hb hv (bits_add (bits_mul hz1 hz1) (bits_mul hz2 hz2)) z1 z2 z3 z4
def TurnIs (X Y r : Int) (C N : Rat) : Prop := IsRoot ((X * X + Y * Y) * 65536 * 65536) r ∧ C = Rat.divInt (65536 * X) r ∧ N = Rat.divInt (65536 * Y) r
abbrev RTrn (X Y : Int) (news : Led) : Heap → Addr → (Str → Option Value) → Shared → (Value → Shared → Prop) → Prop :=
  fun h₀ L m s Q => ∀ (r : Int) (C N : Rat) (D D1 D2 : Addr) (u1 u2 u3 u4 : Tok) (cD c1 c2 : Nat) (h' : Heap) (tk' : Nat),
    (TurnIs X Y r C N ∧ intBits C.num ≤ 200 ∧ intBits (C.den : Int) ≤ 200 ∧ intBits N.num ≤ 200 ∧ intBits (N.den : Int) ≤ 200) → Fr h₀ L h' m →
    News h₀ L h' ((D, ({ cls := .type "tuple", data := .seq #[.ref D1, .ref D2] cD } : Obj)) :: (D1, ({ cls := .type "tuple", data := .seq #[.int C.num u1, .int (C.den : Int) u2] c1 } : Obj)) ::
      (D2, ({ cls := .type "tuple", data := .seq #[.int N.num u3, .int (N.den : Int) u4] c2 } : Obj)) :: news) → Q (.ref D) { s with heap := h', toks := tk' }
set_option maxHeartbeats 8000000 in
theorem trn_c (w : World) (mean : ExcName → Option Value) (mg mb : Str → Option Value) (news : Led) {I dI b wy : Addr} {x y r g : Int} {k1 k2 k3 k4 u1 u2 u3 tg : Tok} {cw : Nat}
    (hI : (I, instObj 211 dI) ∈ news)
    (hd : (dI, dictOf [{ hash := PyData.keyHash w.params (Str.ofString "one"), key := Value.str (Str.ofString "one") k1, val := Value.ref b }, { hash := PyData.keyHash w.params (Str.ofString "way"), key := Value.str (Str.ofString "way") k2, val := Value.ref wy }, { hash := PyData.keyHash w.params (Str.ofString "length"), key := Value.str (Str.ofString "length") k3, val := Value.int r u3 }, { hash := PyData.keyHash w.params (Str.ofString "begin"), key := Value.str (Str.ofString "begin") k4, val := Value.int g tg }] 4) ∈ news)
    (hw : (wy, ({ cls := .type "tuple", data := .seq #[.int x u1, .int y u2] cw } : Obj)) ∈ news)
    (hxy : ¬ (x = 0 ∧ y = 0)) (hz1 : intBits x ≤ 64) (hz2 : intBits y ≤ 64) :
    Cl w mean mg mb 208 [.ref I] news 10 (RTrn x y news) := by
  unfold Cl RTrn
  k_fill
  intro dp un gd cn cs a ccd cl outer A₀ base h₀ L m s Q E B F X N T hk hdp hun hret
  have hs1 : 0 < x * x + y * y := sq2_pos hxy
  have hs2 : 0 < (x * x + y * y) * 65536 * 65536 := by omega
  have hb1 : intBits (x * x + y * y) ≤ 129 := bits_add (bits_mul hz1 hz1) (bits_mul hz2 hz2)
  have hb2 : intBits ((x * x + y * y) * 65536 * 65536) ≤ 163 := bits_mul (bits_mul hb1 (show intBits 65536 ≤ 17 by decide)) (show intBits 65536 ≤ 17 by decide)
  refine wpAny_call ?_
  k_with_none
  (k_with "bbm" => (first
  | with_reducible assumption
  | ((with_reducible apply bits_mnum) <;> bits_by_make)
  | ((with_reducible apply bits_mden) <;> bits_by_make)
  | ((with_reducible apply bits_anum) <;> bits_by_make)
  | ((with_reducible apply bits_aden) <;> bits_by_make)
  | ((with_reducible apply bits_snum) <;> bits_by_make)
  | ((with_reducible apply bits_sden) <;> bits_by_make)
  | ((with_reducible apply bits_nnum) <;> bits_by_make)
  | ((with_reducible apply bits_nden) <;> bits_by_make)
  | fail "bits"))
  (k_with "enter" => ((refine' code_def ?k1 ?k2 ?k3 ?k4 ?k5 ?kA ?kF ?kK ?k6 ?k7 ?k8 ?k9 ?kB ?_ ?c2 ?c3 ?c4 ?c5; (case kA => exact rfl); (case kF => exact rfl); (case kK => assumption); (case k1 => k_asm); (case k2 => k_asm); (case k3 => k_asm); (case k4 => k_asm); (case k5 => k_asm); (case k6 => k_is); (case k7 => k_is); (case k8 => k_extra "room"); (case k9 => first | exact BindsTo.of_eq rfl | exact binds_K (by k_in) rfl (by k_is) rfl rfl rfl); (case c5 => decide); (case kB => exact locs rfl); (case c2 => exact rfl); (case c3 => exact rfl); (case c4 => exact rfl); k_whole; intro g' L' h' FG' F' N' B' X' T'; (try dsimp only); (try k_lift B'); (try k_fold))))
  (k_with "room" => first
    | ((try simp only [depth_under_make, depth_under_kw, depth_in1, depth_deeper, depth_caller]); decide)
    | ((try simp only [depth_under_make, depth_under_kw, depth_in1, depth_deeper, depth_caller]); (try dsimp only [ktrTop]); refine Nat.lt_of_le_of_lt ?_ hdp; (try simp only [Nat.add_assoc]); exact Nat.add_le_add_left (by decide) _)
    | ktr_room)
  (k_with "units" => first
    | ((simp only [units_under_make, units_in1, units_deeper, Around.mark_units, units_caller]); (try dsimp only [ktrTop]); refine Nat.lt_of_le_of_lt ?_ hun; (try simp only [Nat.add_assoc]); exact Nat.add_le_add_left (by decide) _)
    | ((simp only [units_under_make, units_in1, units_deeper, Around.mark_units, units_caller]); rw [cLine_is]; decide)
    | ktr_units)
  (k_with "fdiv" => (k_dflt (refine' fdiv_k ?fa ?fb ?fc ?_; (case fa => omega); (case fb => bits_by_make); (case fc => decide); k_whole)))
  (k_with "subT" => (k_here; (with_reducible show wpAny _ _ (subscriptTail _ _ (Value.ref _) (Value.int _ _)) _ _ _); k_dflt (refine' item_tupleT ?t ?a ?b ?c ?d ?_; (case t => exact News.isTup (by k_asm) (by k_mem)); (case a => decide); (case b => decide); (case c => rfl); (case d => rfl); k_whole)))
  (k_with "cc" => (k_here; (with_reducible show wpAny _ _ (call (Value.ref 60) _) _ _ _); k_dflt (
   refine' Cl.use (gcd_c _ _ _ _ _ _ _ _ _ ?kp) ?k1 ?k2 ?k3 ?k4 ?k5 ?kK ?kd ?ku ?_;
   (case k1 => k_asm); (case k2 => k_asm); (case k3 => k_asm); (case k4 => k_asm); (case k5 => k_asm); (case kK => first | exact rfl | assumption);
   (case kp => first | assumption | omega); (case kd => k_extra "room"); (case ku => k_extra "units"); intro t9 h9 tk9 F9 N9; (try dsimp only); (try k_fold))))
  (k_with "cc" => (k_here; (with_reducible show wpAny _ _ (call (Value.ref 68) _) _ _ _); k_dflt (
   refine' Cl.use (frac_c _ _ _ _ _ _ _ _ _ ?kp ?kz ?kn) ?k1 ?k2 ?k3 ?k4 ?k5 ?kK ?kd ?ku ?_;
   (case k1 => k_asm); (case k2 => k_asm); (case k3 => k_asm); (case k4 => k_asm); (case k5 => k_asm); (case kK => first | exact rfl | assumption);
   (case kp => first | assumption | omega); (case kz => bits_by_make); (case kn => decide); (case kd => k_extra "room"); (case ku => k_extra "units"); intro D9 t9 u9 c9 h9 tk9 F9 N9 l1; (try k_lt l1); (try dsimp only); (try k_fold))))
  (k_with "cc" => (k_here; (with_reducible show wpAny _ _ (call (Value.ref 89) _) _ _ _); k_dflt (
   refine' Cl.use (times_c _ _ _ _ _ ?kx ?ky ?kP ?kQ ?kz1 ?kz2 ?kz3 ?kz4 ?kn) ?k1 ?k2 ?k3 ?k4 ?k5 ?kK ?kd ?ku ?_;
   (case k1 => k_asm); (case k2 => k_asm); (case k3 => k_asm); (case k4 => k_asm); (case k5 => k_asm); (case kK => first | exact rfl | assumption);
   (case kx => k_mem); (case ky => k_mem); (case kP => first | with_reducible exact ratIs_self _ | with_reducible exact ratIs_int _ | with_reducible assumption | fail "rat_is"); (case kQ => first | with_reducible exact ratIs_self _ | with_reducible exact ratIs_int _ | with_reducible assumption | fail "rat_is"); (case kz1 => bits_by_make); (case kz2 => bits_by_make); (case kz3 => bits_by_make); (case kz4 => bits_by_make);
   (case kn => decide); (case kd => k_extra "room"); (case ku => k_extra "units"); intro D9 t9 u9 c9 h9 tk9 F9 N9 l1; (try k_lt l1); (try dsimp only); (try k_fold))))
  (k_with "cc" => (k_here; (with_reducible show wpAny _ _ (call (Value.ref 75) _) _ _ _); k_dflt (
   refine' Cl.use (plus_c _ _ _ _ _ ?kx ?ky ?kP ?kQ ?kz1 ?kz2 ?kz3 ?kz4 ?kn) ?k1 ?k2 ?k3 ?k4 ?k5 ?kK ?kd ?ku ?_;
   (case k1 => k_asm); (case k2 => k_asm); (case k3 => k_asm); (case k4 => k_asm); (case k5 => k_asm); (case kK => first | exact rfl | assumption);
   (case kx => k_mem); (case ky => k_mem); (case kP => first | with_reducible exact ratIs_self _ | with_reducible exact ratIs_int _ | with_reducible assumption | fail "rat_is"); (case kQ => first | with_reducible exact ratIs_self _ | with_reducible exact ratIs_int _ | with_reducible assumption | fail "rat_is"); (case kz1 => bits_by_make); (case kz2 => bits_by_make); (case kz3 => bits_by_make); (case kz4 => bits_by_make);
   (case kn => decide); (case kd => k_extra "room"); (case ku => k_extra "units"); intro D9 t9 u9 c9 h9 tk9 F9 N9 l1; (try k_lt l1); (try dsimp only); (try k_fold))))
  (k_with "cc" => (k_here; (with_reducible show wpAny _ _ (call (Value.ref 82) _) _ _ _); k_dflt (
   refine' Cl.use (minus_c _ _ _ _ _ ?kx ?ky ?kP ?kQ ?kz1 ?kz2 ?kz3 ?kz4 ?kn) ?k1 ?k2 ?k3 ?k4 ?k5 ?kK ?kd ?ku ?_;
   (case k1 => k_asm); (case k2 => k_asm); (case k3 => k_asm); (case k4 => k_asm); (case k5 => k_asm); (case kK => first | exact rfl | assumption);
   (case kx => k_mem); (case ky => k_mem); (case kP => first | with_reducible exact ratIs_self _ | with_reducible exact ratIs_int _ | with_reducible assumption | fail "rat_is"); (case kQ => first | with_reducible exact ratIs_self _ | with_reducible exact ratIs_int _ | with_reducible assumption | fail "rat_is"); (case kz1 => bits_by_make); (case kz2 => bits_by_make); (case kz3 => bits_by_make); (case kz4 => bits_by_make);
   (case kn => decide); (case kd => k_extra "room"); (case ku => k_extra "units"); intro D9 t9 u9 c9 h9 tk9 F9 N9 l1; (try k_lt l1); (try dsimp only); (try k_fold))))
  (k_with "cc" => (k_here; (with_reducible show wpAny _ _ (call (Value.ref 96) _) _ _ _); k_dflt (
   refine' Cl.use (neg_c _ _ _ _ _ ?kx ?kP) ?k1 ?k2 ?k3 ?k4 ?k5 ?kK ?kd ?ku ?_;
   (case k1 => k_asm); (case k2 => k_asm); (case k3 => k_asm); (case k4 => k_asm); (case k5 => k_asm); (case kK => first | exact rfl | assumption);
   (case kx => k_mem); (case kP => first | with_reducible exact ratIs_self _ | with_reducible exact ratIs_int _ | with_reducible assumption | fail "rat_is");
   (case kd => k_extra "room"); (case ku => k_extra "units"); intro D9 t9 u9 c9 h9 tk9 F9 N9 l1; (try k_lt l1); (try dsimp only); (try k_fold))))
  (k_with "cc" => (k_here; (with_reducible show wpAny _ _ (call (Value.ref 68) _) _ _ _); k_dflt (
   refine' Cl.use (frac_e _ _ _ _ _ _ _ _ _ ?kp ?ky ?kz ?kn) ?k1 ?k2 ?k3 ?k4 ?k5 ?kK ?kd ?ku ?_;
   (case k1 => k_asm); (case k2 => k_asm); (case k3 => k_asm); (case k4 => k_asm); (case k5 => k_asm); (case kK => first | exact rfl | assumption);
   (case kp => first | with_reducible assumption | omega); (case ky => bits_by_make); (case kz => bits_by_make); (case kn => decide); (case kd => k_extra "room"); (case ku => k_extra "units"); intro R9 hS9 D9 t9 u9 c9 h9 tk9 F9 N9 l1; (obtain ⟨hR9, hn9, hd9⟩ := hS9); (try k_extra "frac"); (try k_lt l1); (try dsimp only); (try k_fold))))
  (k_with "cc" => (k_here; (with_reducible show wpAny _ _ (call (Value.ref 89) _) _ _ _); k_dflt (
   refine' Cl.use (times_e _ _ _ _ _ ?kx ?ky ?kP ?kQ ?kz1 ?kz2 ?kz3 ?kz4 ?kn) ?k1 ?k2 ?k3 ?k4 ?k5 ?kK ?kd ?ku ?_;
   (case k1 => k_asm); (case k2 => k_asm); (case k3 => k_asm); (case k4 => k_asm); (case k5 => k_asm); (case kK => first | exact rfl | assumption);
   (case kx => k_mem); (case ky => k_mem); (case kP => first | with_reducible exact ratIs_self _ | with_reducible exact ratIs_int _ | with_reducible assumption | fail "rat_is"); (case kQ => first | with_reducible exact ratIs_self _ | with_reducible exact ratIs_int _ | with_reducible assumption | fail "rat_is"); (case kz1 => bits_by_make); (case kz2 => bits_by_make); (case kz3 => bits_by_make); (case kz4 => bits_by_make);
   (case kn => decide); (case kd => k_extra "room"); (case ku => k_extra "units"); intro R9 hS9 D9 t9 u9 c9 h9 tk9 F9 N9 l1; (obtain ⟨hR9, hn9, hd9⟩ := hS9); (try k_extra "ops"); (try k_lt l1); (try dsimp only); (try k_fold))))
  (k_with "cc" => (k_here; (with_reducible show wpAny _ _ (call (Value.ref 75) _) _ _ _); k_dflt (
   refine' Cl.use (plus_e _ _ _ _ _ ?kx ?ky ?kP ?kQ ?kz1 ?kz2 ?kz3 ?kz4 ?kn) ?k1 ?k2 ?k3 ?k4 ?k5 ?kK ?kd ?ku ?_;
   (case k1 => k_asm); (case k2 => k_asm); (case k3 => k_asm); (case k4 => k_asm); (case k5 => k_asm); (case kK => first | exact rfl | assumption);
   (case kx => k_mem); (case ky => k_mem); (case kP => first | with_reducible exact ratIs_self _ | with_reducible exact ratIs_int _ | with_reducible assumption | fail "rat_is"); (case kQ => first | with_reducible exact ratIs_self _ | with_reducible exact ratIs_int _ | with_reducible assumption | fail "rat_is"); (case kz1 => bits_by_make); (case kz2 => bits_by_make); (case kz3 => bits_by_make); (case kz4 => bits_by_make);
   (case kn => decide); (case kd => k_extra "room"); (case ku => k_extra "units"); intro R9 hS9 D9 t9 u9 c9 h9 tk9 F9 N9 l1; (obtain ⟨hR9, hn9, hd9⟩ := hS9); (try k_extra "ops"); (try k_lt l1); (try dsimp only); (try k_fold))))
  (k_with "cc" => (k_here; (with_reducible show wpAny _ _ (call (Value.ref 82) _) _ _ _); k_dflt (
   refine' Cl.use (minus_e _ _ _ _ _ ?kx ?ky ?kP ?kQ ?kz1 ?kz2 ?kz3 ?kz4 ?kn) ?k1 ?k2 ?k3 ?k4 ?k5 ?kK ?kd ?ku ?_;
   (case k1 => k_asm); (case k2 => k_asm); (case k3 => k_asm); (case k4 => k_asm); (case k5 => k_asm); (case kK => first | exact rfl | assumption);
   (case kx => k_mem); (case ky => k_mem); (case kP => first | with_reducible exact ratIs_self _ | with_reducible exact ratIs_int _ | with_reducible assumption | fail "rat_is"); (case kQ => first | with_reducible exact ratIs_self _ | with_reducible exact ratIs_int _ | with_reducible assumption | fail "rat_is"); (case kz1 => bits_by_make); (case kz2 => bits_by_make); (case kz3 => bits_by_make); (case kz4 => bits_by_make);
   (case kn => decide); (case kd => k_extra "room"); (case ku => k_extra "units"); intro R9 hS9 D9 t9 u9 c9 h9 tk9 F9 N9 l1; (obtain ⟨hR9, hn9, hd9⟩ := hS9); (try k_extra "ops"); (try k_lt l1); (try dsimp only); (try k_fold))))
  (k_with "cc" => (k_here; (with_reducible show wpAny _ _ (call (Value.ref 96) _) _ _ _); k_dflt (
   refine' Cl.use (neg_e _ _ _ _ _ ?kx ?kP ?kz1 ?kz2) ?k1 ?k2 ?k3 ?k4 ?k5 ?kK ?kd ?ku ?_;
   (case k1 => k_asm); (case k2 => k_asm); (case k3 => k_asm); (case k4 => k_asm); (case k5 => k_asm); (case kK => first | exact rfl | assumption);
   (case kx => k_mem); (case kP => first | with_reducible exact ratIs_self _ | with_reducible exact ratIs_int _ | with_reducible assumption | fail "rat_is"); (case kz1 => bits_by_make); (case kz2 => bits_by_make);
   (case kd => k_extra "room"); (case ku => k_extra "units"); intro R9 hS9 D9 t9 u9 c9 h9 tk9 F9 N9 l1; (obtain ⟨hR9, hn9, hd9⟩ := hS9); (try k_extra "ops"); (try k_lt l1); (try dsimp only); (try k_fold))))
  (k_with "bbm" => (k_extra "bits"))
  (k_with "fdiv" => (k_dflt (refine' fdiv_k ?fa ?fb ?fc ?_; (case fa => exact fr_ne (by assumption) (by assumption) (by assumption) (by assumption) (by assumption)); (case fb => exact fr_bits (by assumption) (by assumption) (by assumption) (by assumption) (by assumption) (by assumption)); (case fc => decide); k_whole)))
  (k_with "cc" => (k_here; (with_reducible show wpAny _ _ (call (Value.ref 103) _) _ _ _); k_dflt (
   refine' Cl.use (root_c _ _ _ _ _ _ _ ?kp ?kz ?kn) ?k1 ?k2 ?k3 ?k4 ?k5 ?kK ?kd ?ku ?_;
   (case k1 => k_asm); (case k2 => k_asm); (case k3 => k_asm); (case k4 => k_asm); (case k5 => k_asm); (case kK => first | exact rfl | assumption);
   (case kp => first | with_reducible exact sq2_nn _ _ | with_reducible exact sqp_nn _ _ | omega); (case kz => bits_by_make); (case kn => decide); (case kd => k_extra "room"); (case ku => k_extra "units"); intro r9 t9 h9 tk9 hS9 F9 N9; (try k_extra "root"); (try dsimp only); (try k_fold))))
  (k_with "cc" => (k_here; (with_reducible show wpAny _ _ (call (Value.ref 250) _) _ _ _); k_dflt (
   refine' Cl.use (lfrac_e _ _ _ _ _ _ _ _ _ ?kp ?ky ?kz ?kn) ?k1 ?k2 ?k3 ?k4 ?k5 ?kK ?kd ?ku ?_;
   (case k1 => k_asm); (case k2 => k_asm); (case k3 => k_asm); (case k4 => k_asm); (case k5 => k_asm); (case kK => first | exact rfl | assumption);
   (case kp => first | with_reducible assumption | k_extra "pos" | omega); (case ky => bits_by_make); (case kz => bits_by_make); (case kn => decide); (case kd => k_extra "room"); (case ku => k_extra "units"); intro R9 hS9 D9 t9 u9 c9 h9 tk9 F9 N9 l1; (obtain ⟨hR9, hn9, hd9⟩ := hS9); (try k_extra "lfrac"); (try k_lt l1); (try dsimp only); (try k_fold))))
  (k_with "cc" => (k_here; (with_reducible show wpAny _ _ (call (Value.ref 257) _) _ _ _); k_dflt (
   refine' Cl.use (near_c _ _ _ _ _ _ _ _ _ ?kp) ?k1 ?k2 ?k3 ?k4 ?k5 ?kK ?kd ?ku ?_;
   (case k1 => k_asm); (case k2 => k_asm); (case k3 => k_asm); (case k4 => k_asm); (case k5 => k_asm); (case kK => first | exact rfl | assumption);
   (case kp => first | assumption | k_extra "near"); (case kd => k_extra "room"); (case ku => k_extra "units"); intro h9 tk9 F9 N9; (try dsimp only); (try k_fold))))
  k_dflt cell_enter
  (k_with "mem" => first | exact hI | exact hd | exact hw)
  (k_with "root" => (have hr9 := root_pos (by assumption) (by assumption); have hb9 := bits_root (by assumption) (by assumption)))
  repeat' (first | (k_unfold; (try dsimp only)) | ((with_reducible show wpAny _ _ (exec _ _) _ _ _); k_fold; walk1) | walk1 | (dsimp only; walk1) | fail "no step")
  all_goals (
    refine' hret _ _ _ _ _ _ _ _ _ _ _ _ _ _ _ ⟨⟨(by assumption), (by assumption), (by assumption)⟩, Nat.le_trans (by assumption) (by decide), Nat.le_trans (by assumption) (by decide), Nat.le_trans (by assumption) (by decide), Nat.le_trans (by assumption) (by decide)⟩ (by assumption) (cb_drop (by assumption) ?hN)
    case hN =>
      refine List.forall_mem_cons.mpr ⟨by k_mem, List.forall_mem_cons.mpr ⟨by k_mem, List.forall_mem_cons.mpr ⟨by k_mem, ?_⟩⟩⟩
      intro p hp
      repeat (first | exact hp | apply List.mem_cons_of_mem))
set_option maxHeartbeats 8000000 in
theorem turn_c (w : World) (mean : ExcName → Option Value) (mg mb : Str → Option Value) (news : Led) {b v : Addr} {p q x y : Int} {t1 t2 t3 t4 : Tok} {c c' : Nat}
    (hb : (b, ({ cls := .type "tuple", data := .seq #[.int p t1, .int q t2] c } : Obj)) ∈ news) (hv : (v, ({ cls := .type "tuple", data := .seq #[.int x t3, .int y t4] c' } : Obj)) ∈ news)
    (hxy : ¬ (x = 0 ∧ y = 0)) (hz1 : intBits x ≤ 64) (hz2 : intBits y ≤ 64) (hz3 : intBits p ≤ 64) (hz4 : intBits q ≤ 64) :
    Cl w mean mg mb 264 [.ref b, .ref v] news 20 (RBool true news) := by
  unfold Cl RBool
  k_fill
  intro dp un gd cn cs a ccd cl outer A₀ base h₀ L m s Q E B F X N T hk hdp hun hret
  have ex : p + x - p = x := by omega
  have ey : q + y - q = y := by omega
  have hs1 : 0 < x * x + y * y := sq2_pos hxy
  have hb1 : intBits (x * x + y * y) ≤ 129 := bits_add (bits_mul hz1 hz1) (bits_mul hz2 hz2)
  refine wpAny_call ?_
  k_with_none
  (k_with "bbm" => (first
  | with_reducible assumption
  | ((with_reducible apply bits_mnum) <;> bits_by_make)
  | ((with_reducible apply bits_mden) <;> bits_by_make)
  | ((with_reducible apply bits_anum) <;> bits_by_make)
  | ((with_reducible apply bits_aden) <;> bits_by_make)
  | ((with_reducible apply bits_snum) <;> bits_by_make)
  | ((with_reducible apply bits_sden) <;> bits_by_make)
  | ((with_reducible apply bits_nnum) <;> bits_by_make)
  | ((with_reducible apply bits_nden) <;> bits_by_make)
  | fail "bits"))
  (k_with "enter" => ((refine' code_def ?k1 ?k2 ?k3 ?k4 ?k5 ?kA ?kF ?kK ?k6 ?k7 ?k8 ?k9 ?kB ?_ ?c2 ?c3 ?c4 ?c5; (case kA => exact rfl); (case kF => exact rfl); (case kK => assumption); (case k1 => k_asm); (case k2 => k_asm); (case k3 => k_asm); (case k4 => k_asm); (case k5 => k_asm); (case k6 => k_is); (case k7 => k_is); (case k8 => k_extra "room"); (case k9 => first | exact BindsTo.of_eq rfl | exact binds_K (by k_in) rfl (by k_is) rfl rfl rfl); (case c5 => decide); (case kB => exact locs rfl); (case c2 => exact rfl); (case c3 => exact rfl); (case c4 => exact rfl); k_whole; intro g' L' h' FG' F' N' B' X' T'; (try dsimp only); (try k_lift B'); (try k_fold))))
  (k_with "room" => first
    | ((try simp only [depth_under_make, depth_under_kw, depth_in1, depth_deeper, depth_caller]); decide)
    | ((try simp only [depth_under_make, depth_under_kw, depth_in1, depth_deeper, depth_caller]); (try dsimp only [ktrTop]); refine Nat.lt_of_le_of_lt ?_ hdp; (try simp only [Nat.add_assoc]); exact Nat.add_le_add_left (by decide) _)
    | ktr_room)
  (k_with "units" => first
    | ((simp only [units_under_make, units_in1, units_deeper, Around.mark_units, units_caller]); (try dsimp only [ktrTop]); refine Nat.lt_of_le_of_lt ?_ hun; (try simp only [Nat.add_assoc]); exact Nat.add_le_add_left (by decide) _)
    | ((simp only [units_under_make, units_in1, units_deeper, Around.mark_units, units_caller]); rw [cLine_is]; decide)
    | ktr_units)
  (k_with "fdiv" => (k_dflt (refine' fdiv_k ?fa ?fb ?fc ?_; (case fa => omega); (case fb => bits_by_make); (case fc => decide); k_whole)))
  (k_with "subT" => (k_here; (with_reducible show wpAny _ _ (subscriptTail _ _ (Value.ref _) (Value.int _ _)) _ _ _); k_dflt (refine' item_tupleT ?t ?a ?b ?c ?d ?_; (case t => exact News.isTup (by k_asm) (by k_mem)); (case a => decide); (case b => decide); (case c => rfl); (case d => rfl); k_whole)))
  (k_with "cc" => (k_here; (with_reducible show wpAny _ _ (call (Value.ref 60) _) _ _ _); k_dflt (
   refine' Cl.use (gcd_c _ _ _ _ _ _ _ _ _ ?kp) ?k1 ?k2 ?k3 ?k4 ?k5 ?kK ?kd ?ku ?_;
   (case k1 => k_asm); (case k2 => k_asm); (case k3 => k_asm); (case k4 => k_asm); (case k5 => k_asm); (case kK => first | exact rfl | assumption);
   (case kp => first | assumption | omega); (case kd => k_extra "room"); (case ku => k_extra "units"); intro t9 h9 tk9 F9 N9; (try dsimp only); (try k_fold))))
  (k_with "cc" => (k_here; (with_reducible show wpAny _ _ (call (Value.ref 68) _) _ _ _); k_dflt (
   refine' Cl.use (frac_c _ _ _ _ _ _ _ _ _ ?kp ?kz ?kn) ?k1 ?k2 ?k3 ?k4 ?k5 ?kK ?kd ?ku ?_;
   (case k1 => k_asm); (case k2 => k_asm); (case k3 => k_asm); (case k4 => k_asm); (case k5 => k_asm); (case kK => first | exact rfl | assumption);
   (case kp => first | assumption | omega); (case kz => bits_by_make); (case kn => decide); (case kd => k_extra "room"); (case ku => k_extra "units"); intro D9 t9 u9 c9 h9 tk9 F9 N9 l1; (try k_lt l1); (try dsimp only); (try k_fold))))
  (k_with "cc" => (k_here; (with_reducible show wpAny _ _ (call (Value.ref 89) _) _ _ _); k_dflt (
   refine' Cl.use (times_c _ _ _ _ _ ?kx ?ky ?kP ?kQ ?kz1 ?kz2 ?kz3 ?kz4 ?kn) ?k1 ?k2 ?k3 ?k4 ?k5 ?kK ?kd ?ku ?_;
   (case k1 => k_asm); (case k2 => k_asm); (case k3 => k_asm); (case k4 => k_asm); (case k5 => k_asm); (case kK => first | exact rfl | assumption);
   (case kx => k_mem); (case ky => k_mem); (case kP => first | with_reducible exact ratIs_self _ | with_reducible exact ratIs_int _ | with_reducible assumption | fail "rat_is"); (case kQ => first | with_reducible exact ratIs_self _ | with_reducible exact ratIs_int _ | with_reducible assumption | fail "rat_is"); (case kz1 => bits_by_make); (case kz2 => bits_by_make); (case kz3 => bits_by_make); (case kz4 => bits_by_make);
   (case kn => decide); (case kd => k_extra "room"); (case ku => k_extra "units"); intro D9 t9 u9 c9 h9 tk9 F9 N9 l1; (try k_lt l1); (try dsimp only); (try k_fold))))
  (k_with "cc" => (k_here; (with_reducible show wpAny _ _ (call (Value.ref 75) _) _ _ _); k_dflt (
   refine' Cl.use (plus_c _ _ _ _ _ ?kx ?ky ?kP ?kQ ?kz1 ?kz2 ?kz3 ?kz4 ?kn) ?k1 ?k2 ?k3 ?k4 ?k5 ?kK ?kd ?ku ?_;
   (case k1 => k_asm); (case k2 => k_asm); (case k3 => k_asm); (case k4 => k_asm); (case k5 => k_asm); (case kK => first | exact rfl | assumption);
   (case kx => k_mem); (case ky => k_mem); (case kP => first | with_reducible exact ratIs_self _ | with_reducible exact ratIs_int _ | with_reducible assumption | fail "rat_is"); (case kQ => first | with_reducible exact ratIs_self _ | with_reducible exact ratIs_int _ | with_reducible assumption | fail "rat_is"); (case kz1 => bits_by_make); (case kz2 => bits_by_make); (case kz3 => bits_by_make); (case kz4 => bits_by_make);
   (case kn => decide); (case kd => k_extra "room"); (case ku => k_extra "units"); intro D9 t9 u9 c9 h9 tk9 F9 N9 l1; (try k_lt l1); (try dsimp only); (try k_fold))))
  (k_with "cc" => (k_here; (with_reducible show wpAny _ _ (call (Value.ref 82) _) _ _ _); k_dflt (
   refine' Cl.use (minus_c _ _ _ _ _ ?kx ?ky ?kP ?kQ ?kz1 ?kz2 ?kz3 ?kz4 ?kn) ?k1 ?k2 ?k3 ?k4 ?k5 ?kK ?kd ?ku ?_;
   (case k1 => k_asm); (case k2 => k_asm); (case k3 => k_asm); (case k4 => k_asm); (case k5 => k_asm); (case kK => first | exact rfl | assumption);
   (case kx => k_mem); (case ky => k_mem); (case kP => first | with_reducible exact ratIs_self _ | with_reducible exact ratIs_int _ | with_reducible assumption | fail "rat_is"); (case kQ => first | with_reducible exact ratIs_self _ | with_reducible exact ratIs_int _ | with_reducible assumption | fail "rat_is"); (case kz1 => bits_by_make); (case kz2 => bits_by_make); (case kz3 => bits_by_make); (case kz4 => bits_by_make);
   (case kn => decide); (case kd => k_extra "room"); (case ku => k_extra "units"); intro D9 t9 u9 c9 h9 tk9 F9 N9 l1; (try k_lt l1); (try dsimp only); (try k_fold))))
  (k_with "cc" => (k_here; (with_reducible show wpAny _ _ (call (Value.ref 96) _) _ _ _); k_dflt (
   refine' Cl.use (neg_c _ _ _ _ _ ?kx ?kP) ?k1 ?k2 ?k3 ?k4 ?k5 ?kK ?kd ?ku ?_;
   (case k1 => k_asm); (case k2 => k_asm); (case k3 => k_asm); (case k4 => k_asm); (case k5 => k_asm); (case kK => first | exact rfl | assumption);
   (case kx => k_mem); (case kP => first | with_reducible exact ratIs_self _ | with_reducible exact ratIs_int _ | with_reducible assumption | fail "rat_is");
   (case kd => k_extra "room"); (case ku => k_extra "units"); intro D9 t9 u9 c9 h9 tk9 F9 N9 l1; (try k_lt l1); (try dsimp only); (try k_fold))))
  (k_with "cc" => (k_here; (with_reducible show wpAny _ _ (call (Value.ref 68) _) _ _ _); k_dflt (
   refine' Cl.use (frac_e _ _ _ _ _ _ _ _ _ ?kp ?ky ?kz ?kn) ?k1 ?k2 ?k3 ?k4 ?k5 ?kK ?kd ?ku ?_;
   (case k1 => k_asm); (case k2 => k_asm); (case k3 => k_asm); (case k4 => k_asm); (case k5 => k_asm); (case kK => first | exact rfl | assumption);
   (case kp => first | with_reducible assumption | omega); (case ky => bits_by_make); (case kz => bits_by_make); (case kn => decide); (case kd => k_extra "room"); (case ku => k_extra "units"); intro R9 hS9 D9 t9 u9 c9 h9 tk9 F9 N9 l1; (obtain ⟨hR9, hn9, hd9⟩ := hS9); (try k_extra "frac"); (try k_lt l1); (try dsimp only); (try k_fold))))
  (k_with "cc" => (k_here; (with_reducible show wpAny _ _ (call (Value.ref 89) _) _ _ _); k_dflt (
   refine' Cl.use (times_e _ _ _ _ _ ?kx ?ky ?kP ?kQ ?kz1 ?kz2 ?kz3 ?kz4 ?kn) ?k1 ?k2 ?k3 ?k4 ?k5 ?kK ?kd ?ku ?_;
   (case k1 => k_asm); (case k2 => k_asm); (case k3 => k_asm); (case k4 => k_asm); (case k5 => k_asm); (case kK => first | exact rfl | assumption);
   (case kx => k_mem); (case ky => k_mem); (case kP => first | with_reducible exact ratIs_self _ | with_reducible exact ratIs_int _ | with_reducible assumption | fail "rat_is"); (case kQ => first | with_reducible exact ratIs_self _ | with_reducible exact ratIs_int _ | with_reducible assumption | fail "rat_is"); (case kz1 => bits_by_make); (case kz2 => bits_by_make); (case kz3 => bits_by_make); (case kz4 => bits_by_make);
   (case kn => decide); (case kd => k_extra "room"); (case ku => k_extra "units"); intro R9 hS9 D9 t9 u9 c9 h9 tk9 F9 N9 l1; (obtain ⟨hR9, hn9, hd9⟩ := hS9); (try k_extra "ops"); (try k_lt l1); (try dsimp only); (try k_fold))))
  (k_with "cc" => (k_here; (with_reducible show wpAny _ _ (call (Value.ref 75) _) _ _ _); k_dflt (
   refine' Cl.use (plus_e _ _ _ _ _ ?kx ?ky ?kP ?kQ ?kz1 ?kz2 ?kz3 ?kz4 ?kn) ?k1 ?k2 ?k3 ?k4 ?k5 ?kK ?kd ?ku ?_;
   (case k1 => k_asm); (case k2 => k_asm); (case k3 => k_asm); (case k4 => k_asm); (case k5 => k_asm); (case kK => first | exact rfl | assumption);
   (case kx => k_mem); (case ky => k_mem); (case kP => first | with_reducible exact ratIs_self _ | with_reducible exact ratIs_int _ | with_reducible assumption | fail "rat_is"); (case kQ => first | with_reducible exact ratIs_self _ | with_reducible exact ratIs_int _ | with_reducible assumption | fail "rat_is"); (case kz1 => bits_by_make); (case kz2 => bits_by_make); (case kz3 => bits_by_make); (case kz4 => bits_by_make);
   (case kn => decide); (case kd => k_extra "room"); (case ku => k_extra "units"); intro R9 hS9 D9 t9 u9 c9 h9 tk9 F9 N9 l1; (obtain ⟨hR9, hn9, hd9⟩ := hS9); (try k_extra "ops"); (try k_lt l1); (try dsimp only); (try k_fold))))
  (k_with "cc" => (k_here; (with_reducible show wpAny _ _ (call (Value.ref 82) _) _ _ _); k_dflt (
   refine' Cl.use (minus_e _ _ _ _ _ ?kx ?ky ?kP ?kQ ?kz1 ?kz2 ?kz3 ?kz4 ?kn) ?k1 ?k2 ?k3 ?k4 ?k5 ?kK ?kd ?ku ?_;
   (case k1 => k_asm); (case k2 => k_asm); (case k3 => k_asm); (case k4 => k_asm); (case k5 => k_asm); (case kK => first | exact rfl | assumption);
   (case kx => k_mem); (case ky => k_mem); (case kP => first | with_reducible exact ratIs_self _ | with_reducible exact ratIs_int _ | with_reducible assumption | fail "rat_is"); (case kQ => first | with_reducible exact ratIs_self _ | with_reducible exact ratIs_int _ | with_reducible assumption | fail "rat_is"); (case kz1 => bits_by_make); (case kz2 => bits_by_make); (case kz3 => bits_by_make); (case kz4 => bits_by_make);
   (case kn => decide); (case kd => k_extra "room"); (case ku => k_extra "units"); intro R9 hS9 D9 t9 u9 c9 h9 tk9 F9 N9 l1; (obtain ⟨hR9, hn9, hd9⟩ := hS9); (try k_extra "ops"); (try k_lt l1); (try dsimp only); (try k_fold))))
  (k_with "cc" => (k_here; (with_reducible show wpAny _ _ (call (Value.ref 96) _) _ _ _); k_dflt (
   refine' Cl.use (neg_e _ _ _ _ _ ?kx ?kP ?kz1 ?kz2) ?k1 ?k2 ?k3 ?k4 ?k5 ?kK ?kd ?ku ?_;
   (case k1 => k_asm); (case k2 => k_asm); (case k3 => k_asm); (case k4 => k_asm); (case k5 => k_asm); (case kK => first | exact rfl | assumption);
   (case kx => k_mem); (case kP => first | with_reducible exact ratIs_self _ | with_reducible exact ratIs_int _ | with_reducible assumption | fail "rat_is"); (case kz1 => bits_by_make); (case kz2 => bits_by_make);
   (case kd => k_extra "room"); (case ku => k_extra "units"); intro R9 hS9 D9 t9 u9 c9 h9 tk9 F9 N9 l1; (obtain ⟨hR9, hn9, hd9⟩ := hS9); (try k_extra "ops"); (try k_lt l1); (try dsimp only); (try k_fold))))
  (k_with "bbm" => (k_extra "bits"))
  (k_with "fdiv" => (k_dflt (refine' fdiv_k ?fa ?fb ?fc ?_; (case fa => exact fr_ne (by assumption) (by assumption) (by assumption) (by assumption) (by assumption)); (case fb => exact fr_bits (by assumption) (by assumption) (by assumption) (by assumption) (by assumption) (by assumption)); (case fc => decide); k_whole)))
  (k_with "cc" => (k_here; (with_reducible show wpAny _ _ (call (Value.ref 103) _) _ _ _); k_dflt (
   refine' Cl.use (root_c _ _ _ _ _ _ _ ?kp ?kz ?kn) ?k1 ?k2 ?k3 ?k4 ?k5 ?kK ?kd ?ku ?_;
   (case k1 => k_asm); (case k2 => k_asm); (case k3 => k_asm); (case k4 => k_asm); (case k5 => k_asm); (case kK => first | exact rfl | assumption);
   (case kp => first | with_reducible exact sq2_nn _ _ | with_reducible exact sqp_nn _ _ | omega); (case kz => bits_by_make); (case kn => decide); (case kd => k_extra "room"); (case ku => k_extra "units"); intro r9 t9 h9 tk9 hS9 F9 N9; (try k_extra "root"); (try dsimp only); (try k_fold))))
  (k_with "cc" => (k_here; (with_reducible show wpAny _ _ (call (Value.ref 250) _) _ _ _); k_dflt (
   refine' Cl.use (lfrac_e _ _ _ _ _ _ _ _ _ ?kp ?ky ?kz ?kn) ?k1 ?k2 ?k3 ?k4 ?k5 ?kK ?kd ?ku ?_;
   (case k1 => k_asm); (case k2 => k_asm); (case k3 => k_asm); (case k4 => k_asm); (case k5 => k_asm); (case kK => first | exact rfl | assumption);
   (case kp => first | with_reducible assumption | k_extra "pos" | omega); (case ky => bits_by_make); (case kz => bits_by_make); (case kn => decide); (case kd => k_extra "room"); (case ku => k_extra "units"); intro R9 hS9 D9 t9 u9 c9 h9 tk9 F9 N9 l1; (obtain ⟨hR9, hn9, hd9⟩ := hS9); (try k_extra "lfrac"); (try k_lt l1); (try dsimp only); (try k_fold))))
  (k_with "cc" => (k_here; (with_reducible show wpAny _ _ (call (Value.ref 257) _) _ _ _); k_dflt (
   refine' Cl.use (near_c _ _ _ _ _ _ _ _ _ ?kp) ?k1 ?k2 ?k3 ?k4 ?k5 ?kK ?kd ?ku ?_;
   (case k1 => k_asm); (case k2 => k_asm); (case k3 => k_asm); (case k4 => k_asm); (case k5 => k_asm); (case kK => first | exact rfl | assumption);
   (case kp => first | assumption | k_extra "near"); (case kd => k_extra "room"); (case ku => k_extra "units"); intro h9 tk9 F9 N9; (try dsimp only); (try k_fold))))
  (k_with "cc" => (k_here; (with_reducible show wpAny _ _ (call (Value.ref 211) _) _ _ _); k_dflt (
   refine' Cl.use (side_e _ _ _ _ _ ?m1 ?m2 ?hX ?hY ?y1 ?y2 ?y3 ?y4 ?y5 ?y6) ?k1 ?k2 ?k3 ?k4 ?k5 ?kK ?kd ?ku ?_;
   (case k1 => k_asm); (case k2 => k_asm); (case k3 => k_asm); (case k4 => k_asm); (case k5 => k_asm); (case kK => first | exact rfl | assumption);
   (case m1 => k_mem); (case m2 => k_mem); (case hX => assumption); (case hY => assumption); (case y1 => assumption); (case y2 => assumption); (case y3 => k_extra "b70"); (case y4 => k_extra "b70"); (case y5 => k_extra "b70"); (case y6 => k_extra "b70"); (case kd => k_extra "room"); (case ku => k_extra "units");
   intro r9 I9 d9 wy9 k91 k92 k93 k94 u91 u92 u93 c9 h9 tk9 hS9 F9 N9; (try k_extra "side"); (try dsimp only); (try k_fold))))
  (k_with "cc" => (k_here; (with_reducible show wpAny _ _ (call (Value.ref 208) _) _ _ _); k_dflt (
   refine' Cl.use (trn_c _ _ _ _ _ ?m1 ?m2 ?m3 ?kx ?y1 ?y2) ?k1 ?k2 ?k3 ?k4 ?k5 ?kK ?kd ?ku ?_;
   (case k1 => k_asm); (case k2 => k_asm); (case k3 => k_asm); (case k4 => k_asm); (case k5 => k_asm); (case kK => first | exact rfl | assumption);
   (case m1 => k_mem); (case m2 => k_mem); (case m3 => k_mem); (case kx => assumption); (case y1 => assumption); (case y2 => assumption); (case kd => k_extra "room"); (case ku => k_extra "units");
   intro r9 C9 S9 D9 D91 D92 u91 u92 u93 u94 c9 c91 c92 h9 tk9 hS9 F9 N9; (obtain ⟨hT9, x1, x2, x3, x4⟩ := hS9); (try k_extra "trn"); (try dsimp only); (try k_fold))))
  k_dflt cell_enter
  (k_with "mem" => first | exact hb | exact hv)
  (k_with "b70" => first | exact Nat.le_trans (by assumption) (by decide) | exact Nat.le_trans (bits_add hz3 hz1) (by decide) | exact Nat.le_trans (bits_add hz4 hz2) (by decide))
  (k_with "side" => (have hr9 := root_pos hS9 hs1; have hb9 := bits_root hS9 hb1))
  (k_with "trn" => (obtain ⟨hR9, hC9, hN9⟩ := hT9; have hF9 := turn_facts rfl rfl hs1 hC9 hN9 hR9; obtain ⟨⟨hE1, hE2, hE3⟩, hE4⟩ := hF9; replace N9 := drop5_2 N9))
  (k_with "lfrac" => first
    | (have hq9 := whole_x rfl rfl (by assumption) (by assumption : _ = Rat.divInt (65536 * x) _) (by assumption : IsRoot ((x * x + y * y) * 65536 * 65536) _) (by assumption) (by assumption); subst hq9; (replace N9 := drop4_5 N9))
    | (have hq9 := whole_y rfl rfl (by assumption) (by assumption : _ = Rat.divInt (65536 * y) _) (by assumption : IsRoot ((x * x + y * y) * 65536 * 65536) _) (by assumption) (by assumption); subst hq9))
  repeat' (first | (k_unfold; (try dsimp only)) | ((with_reducible show wpAny _ _ (exec _ _) _ _ _); k_fold; walk1) | walk1 | (dsimp only; walk1) | fail "no step")
  all_goals first
    | exact ret_bool hret rfl (by assumption) (by assumption) (fun p hp => by repeat (first | exact hp | apply List.mem_cons_of_mem))
    | exact absurd hE1 (by assumption)
abbrev RMin (w : World) (a1 a2 a3 a4 a5 a6 : Addr) (news : Led) : Heap → Addr → (Str → Option Value) → Shared → (Value → Shared → Prop) → Prop :=
  fun h₀ L m s Q => ∀ (M dM : Addr) (k1 k2 k3 k4 k5 k6 : Tok) (h' : Heap) (tk' : Nat), Fr h₀ L h' m → News h₀ L h' ((M, instObj 162 dM) :: (dM, dictOf [{ hash := PyData.keyHash w.params (Str.ofString "a"), key := Value.str (Str.ofString "a") k1, val := Value.ref a1 }, { hash := PyData.keyHash w.params (Str.ofString "b"), key := Value.str (Str.ofString "b") k2, val := Value.ref a2 }, { hash := PyData.keyHash w.params (Str.ofString "c"), key := Value.str (Str.ofString "c") k3, val := Value.ref a3 }, { hash := PyData.keyHash w.params (Str.ofString "d"), key := Value.str (Str.ofString "d") k4, val := Value.ref a4 }, { hash := PyData.keyHash w.params (Str.ofString "e"), key := Value.str (Str.ofString "e") k5, val := Value.ref a5 }, { hash := PyData.keyHash w.params (Str.ofString "f"), key := Value.str (Str.ofString "f") k6, val := Value.ref a6 }] 6) :: news) → Q (.ref M) { s with heap := h', toks := tk' }
set_option maxHeartbeats 8000000 in
theorem minit_c (w : World) (mean : ExcName → Option Value) (mg mb : Str → Option Value) (news : Led) {a1 a2 a3 a4 a5 a6 : Addr} :
    Cl w mean mg mb 162 [.ref a1, .ref a2, .ref a3, .ref a4, .ref a5, .ref a6] news 4 (RMin w a1 a2 a3 a4 a5 a6 news) := by
  unfold Cl RMin
  k_fill
  intro dp un gd cn cs a ccd cl outer A₀ base h₀ L m s Q E B F X N T hk hdp hun hret
  k_with_none
  (k_with "bbm" => (first
  | with_reducible assumption
  | ((with_reducible apply bits_mnum) <;> bits_by_make)
  | ((with_reducible apply bits_mden) <;> bits_by_make)
  | ((with_reducible apply bits_anum) <;> bits_by_make)
  | ((with_reducible apply bits_aden) <;> bits_by_make)
  | ((with_reducible apply bits_snum) <;> bits_by_make)
  | ((with_reducible apply bits_sden) <;> bits_by_make)
  | ((with_reducible apply bits_nnum) <;> bits_by_make)
  | ((with_reducible apply bits_nden) <;> bits_by_make)
  | fail "bits"))
  (k_with "enter" => ((refine' code_def ?k1 ?k2 ?k3 ?k4 ?k5 ?kA ?kF ?kK ?k6 ?k7 ?k8 ?k9 ?kB ?_ ?c2 ?c3 ?c4 ?c5; (case kA => exact rfl); (case kF => exact rfl); (case kK => assumption); (case k1 => k_asm); (case k2 => k_asm); (case k3 => k_asm); (case k4 => k_asm); (case k5 => k_asm); (case k6 => k_is); (case k7 => k_is); (case k8 => k_extra "room"); (case k9 => first | exact BindsTo.of_eq rfl | exact binds_K (by k_in) rfl (by k_is) rfl rfl rfl); (case c5 => decide); (case kB => exact locs rfl); (case c2 => exact rfl); (case c3 => exact rfl); (case c4 => exact rfl); k_whole; intro g' L' h' FG' F' N' B' X' T'; (try dsimp only); (try k_lift B'); (try k_fold))))
  (k_with "room" => first
    | ((try simp only [depth_under_make, depth_under_kw, depth_in1, depth_deeper, depth_caller]); decide)
    | ((try simp only [depth_under_make, depth_under_kw, depth_in1, depth_deeper, depth_caller]); (try dsimp only [ktrTop]); refine Nat.lt_of_le_of_lt ?_ hdp; (try simp only [Nat.add_assoc]); exact Nat.add_le_add_left (by decide) _)
    | ktr_room)
  (k_with "units" => first
    | ((simp only [units_under_make, units_in1, units_deeper, Around.mark_units, units_caller]); (try dsimp only [ktrTop]); refine Nat.lt_of_le_of_lt ?_ hun; (try simp only [Nat.add_assoc]); exact Nat.add_le_add_left (by decide) _)
    | ((simp only [units_under_make, units_in1, units_deeper, Around.mark_units, units_caller]); rw [cLine_is]; decide)
    | ktr_units)
  (k_with "fdiv" => (k_dflt (refine' fdiv_k ?fa ?fb ?fc ?_; (case fa => omega); (case fb => bits_by_make); (case fc => decide); k_whole)))
  (k_with "subT" => (k_here; (with_reducible show wpAny _ _ (subscriptTail _ _ (Value.ref _) (Value.int _ _)) _ _ _); k_dflt (refine' item_tupleT ?t ?a ?b ?c ?d ?_; (case t => exact News.isTup (by k_asm) (by k_mem)); (case a => decide); (case b => decide); (case c => rfl); (case d => rfl); k_whole)))
  (k_with "cc" => (k_here; (with_reducible show wpAny _ _ (call (Value.ref 60) _) _ _ _); k_dflt (
   refine' Cl.use (gcd_c _ _ _ _ _ _ _ _ _ ?kp) ?k1 ?k2 ?k3 ?k4 ?k5 ?kK ?kd ?ku ?_;
   (case k1 => k_asm); (case k2 => k_asm); (case k3 => k_asm); (case k4 => k_asm); (case k5 => k_asm); (case kK => first | exact rfl | assumption);
   (case kp => first | assumption | omega); (case kd => k_extra "room"); (case ku => k_extra "units"); intro t9 h9 tk9 F9 N9; (try dsimp only); (try k_fold))))
  (k_with "cc" => (k_here; (with_reducible show wpAny _ _ (call (Value.ref 68) _) _ _ _); k_dflt (
   refine' Cl.use (frac_c _ _ _ _ _ _ _ _ _ ?kp ?kz ?kn) ?k1 ?k2 ?k3 ?k4 ?k5 ?kK ?kd ?ku ?_;
   (case k1 => k_asm); (case k2 => k_asm); (case k3 => k_asm); (case k4 => k_asm); (case k5 => k_asm); (case kK => first | exact rfl | assumption);
   (case kp => first | assumption | omega); (case kz => bits_by_make); (case kn => decide); (case kd => k_extra "room"); (case ku => k_extra "units"); intro D9 t9 u9 c9 h9 tk9 F9 N9 l1; (try k_lt l1); (try dsimp only); (try k_fold))))
  (k_with "cc" => (k_here; (with_reducible show wpAny _ _ (call (Value.ref 89) _) _ _ _); k_dflt (
   refine' Cl.use (times_c _ _ _ _ _ ?kx ?ky ?kP ?kQ ?kz1 ?kz2 ?kz3 ?kz4 ?kn) ?k1 ?k2 ?k3 ?k4 ?k5 ?kK ?kd ?ku ?_;
   (case k1 => k_asm); (case k2 => k_asm); (case k3 => k_asm); (case k4 => k_asm); (case k5 => k_asm); (case kK => first | exact rfl | assumption);
   (case kx => k_mem); (case ky => k_mem); (case kP => first | with_reducible exact ratIs_self _ | with_reducible exact ratIs_int _ | with_reducible assumption | fail "rat_is"); (case kQ => first | with_reducible exact ratIs_self _ | with_reducible exact ratIs_int _ | with_reducible assumption | fail "rat_is"); (case kz1 => bits_by_make); (case kz2 => bits_by_make); (case kz3 => bits_by_make); (case kz4 => bits_by_make);
   (case kn => decide); (case kd => k_extra "room"); (case ku => k_extra "units"); intro D9 t9 u9 c9 h9 tk9 F9 N9 l1; (try k_lt l1); (try dsimp only); (try k_fold))))
  (k_with "cc" => (k_here; (with_reducible show wpAny _ _ (call (Value.ref 75) _) _ _ _); k_dflt (
   refine' Cl.use (plus_c _ _ _ _ _ ?kx ?ky ?kP ?kQ ?kz1 ?kz2 ?kz3 ?kz4 ?kn) ?k1 ?k2 ?k3 ?k4 ?k5 ?kK ?kd ?ku ?_;
   (case k1 => k_asm); (case k2 => k_asm); (case k3 => k_asm); (case k4 => k_asm); (case k5 => k_asm); (case kK => first | exact rfl | assumption);
   (case kx => k_mem); (case ky => k_mem); (case kP => first | with_reducible exact ratIs_self _ | with_reducible exact ratIs_int _ | with_reducible assumption | fail "rat_is"); (case kQ => first | with_reducible exact ratIs_self _ | with_reducible exact ratIs_int _ | with_reducible assumption | fail "rat_is"); (case kz1 => bits_by_make); (case kz2 => bits_by_make); (case kz3 => bits_by_make); (case kz4 => bits_by_make);
   (case kn => decide); (case kd => k_extra "room"); (case ku => k_extra "units"); intro D9 t9 u9 c9 h9 tk9 F9 N9 l1; (try k_lt l1); (try dsimp only); (try k_fold))))
  (k_with "cc" => (k_here; (with_reducible show wpAny _ _ (call (Value.ref 82) _) _ _ _); k_dflt (
   refine' Cl.use (minus_c _ _ _ _ _ ?kx ?ky ?kP ?kQ ?kz1 ?kz2 ?kz3 ?kz4 ?kn) ?k1 ?k2 ?k3 ?k4 ?k5 ?kK ?kd ?ku ?_;
   (case k1 => k_asm); (case k2 => k_asm); (case k3 => k_asm); (case k4 => k_asm); (case k5 => k_asm); (case kK => first | exact rfl | assumption);
   (case kx => k_mem); (case ky => k_mem); (case kP => first | with_reducible exact ratIs_self _ | with_reducible exact ratIs_int _ | with_reducible assumption | fail "rat_is"); (case kQ => first | with_reducible exact ratIs_self _ | with_reducible exact ratIs_int _ | with_reducible assumption | fail "rat_is"); (case kz1 => bits_by_make); (case kz2 => bits_by_make); (case kz3 => bits_by_make); (case kz4 => bits_by_make);
   (case kn => decide); (case kd => k_extra "room"); (case ku => k_extra "units"); intro D9 t9 u9 c9 h9 tk9 F9 N9 l1; (try k_lt l1); (try dsimp only); (try k_fold))))
  (k_with "cc" => (k_here; (with_reducible show wpAny _ _ (call (Value.ref 96) _) _ _ _); k_dflt (
   refine' Cl.use (neg_c _ _ _ _ _ ?kx ?kP) ?k1 ?k2 ?k3 ?k4 ?k5 ?kK ?kd ?ku ?_;
   (case k1 => k_asm); (case k2 => k_asm); (case k3 => k_asm); (case k4 => k_asm); (case k5 => k_asm); (case kK => first | exact rfl | assumption);
   (case kx => k_mem); (case kP => first | with_reducible exact ratIs_self _ | with_reducible exact ratIs_int _ | with_reducible assumption | fail "rat_is");
   (case kd => k_extra "room"); (case ku => k_extra "units"); intro D9 t9 u9 c9 h9 tk9 F9 N9 l1; (try k_lt l1); (try dsimp only); (try k_fold))))
  (k_with "cc" => (k_here; (with_reducible show wpAny _ _ (call (Value.ref 68) _) _ _ _); k_dflt (
   refine' Cl.use (frac_e _ _ _ _ _ _ _ _ _ ?kp ?ky ?kz ?kn) ?k1 ?k2 ?k3 ?k4 ?k5 ?kK ?kd ?ku ?_;
   (case k1 => k_asm); (case k2 => k_asm); (case k3 => k_asm); (case k4 => k_asm); (case k5 => k_asm); (case kK => first | exact rfl | assumption);
   (case kp => first | with_reducible assumption | omega); (case ky => bits_by_make); (case kz => bits_by_make); (case kn => decide); (case kd => k_extra "room"); (case ku => k_extra "units"); intro R9 hS9 D9 t9 u9 c9 h9 tk9 F9 N9 l1; (obtain ⟨hR9, hn9, hd9⟩ := hS9); (try k_extra "frac"); (try k_lt l1); (try dsimp only); (try k_fold))))
  (k_with "cc" => (k_here; (with_reducible show wpAny _ _ (call (Value.ref 89) _) _ _ _); k_dflt (
   refine' Cl.use (times_e _ _ _ _ _ ?kx ?ky ?kP ?kQ ?kz1 ?kz2 ?kz3 ?kz4 ?kn) ?k1 ?k2 ?k3 ?k4 ?k5 ?kK ?kd ?ku ?_;
   (case k1 => k_asm); (case k2 => k_asm); (case k3 => k_asm); (case k4 => k_asm); (case k5 => k_asm); (case kK => first | exact rfl | assumption);
   (case kx => k_mem); (case ky => k_mem); (case kP => first | with_reducible exact ratIs_self _ | with_reducible exact ratIs_int _ | with_reducible assumption | fail "rat_is"); (case kQ => first | with_reducible exact ratIs_self _ | with_reducible exact ratIs_int _ | with_reducible assumption | fail "rat_is"); (case kz1 => bits_by_make); (case kz2 => bits_by_make); (case kz3 => bits_by_make); (case kz4 => bits_by_make);
   (case kn => decide); (case kd => k_extra "room"); (case ku => k_extra "units"); intro R9 hS9 D9 t9 u9 c9 h9 tk9 F9 N9 l1; (obtain ⟨hR9, hn9, hd9⟩ := hS9); (try k_extra "ops"); (try k_lt l1); (try dsimp only); (try k_fold))))
  (k_with "cc" => (k_here; (with_reducible show wpAny _ _ (call (Value.ref 75) _) _ _ _); k_dflt (
   refine' Cl.use (plus_e _ _ _ _ _ ?kx ?ky ?kP ?kQ ?kz1 ?kz2 ?kz3 ?kz4 ?kn) ?k1 ?k2 ?k3 ?k4 ?k5 ?kK ?kd ?ku ?_;
   (case k1 => k_asm); (case k2 => k_asm); (case k3 => k_asm); (case k4 => k_asm); (case k5 => k_asm); (case kK => first | exact rfl | assumption);
   (case kx => k_mem); (case ky => k_mem); (case kP => first | with_reducible exact ratIs_self _ | with_reducible exact ratIs_int _ | with_reducible assumption | fail "rat_is"); (case kQ => first | with_reducible exact ratIs_self _ | with_reducible exact ratIs_int _ | with_reducible assumption | fail "rat_is"); (case kz1 => bits_by_make); (case kz2 => bits_by_make); (case kz3 => bits_by_make); (case kz4 => bits_by_make);
   (case kn => decide); (case kd => k_extra "room"); (case ku => k_extra "units"); intro R9 hS9 D9 t9 u9 c9 h9 tk9 F9 N9 l1; (obtain ⟨hR9, hn9, hd9⟩ := hS9); (try k_extra "ops"); (try k_lt l1); (try dsimp only); (try k_fold))))
  (k_with "cc" => (k_here; (with_reducible show wpAny _ _ (call (Value.ref 82) _) _ _ _); k_dflt (
   refine' Cl.use (minus_e _ _ _ _ _ ?kx ?ky ?kP ?kQ ?kz1 ?kz2 ?kz3 ?kz4 ?kn) ?k1 ?k2 ?k3 ?k4 ?k5 ?kK ?kd ?ku ?_;
   (case k1 => k_asm); (case k2 => k_asm); (case k3 => k_asm); (case k4 => k_asm); (case k5 => k_asm); (case kK => first | exact rfl | assumption);
   (case kx => k_mem); (case ky => k_mem); (case kP => first | with_reducible exact ratIs_self _ | with_reducible exact ratIs_int _ | with_reducible assumption | fail "rat_is"); (case kQ => first | with_reducible exact ratIs_self _ | with_reducible exact ratIs_int _ | with_reducible assumption | fail "rat_is"); (case kz1 => bits_by_make); (case kz2 => bits_by_make); (case kz3 => bits_by_make); (case kz4 => bits_by_make);
   (case kn => decide); (case kd => k_extra "room"); (case ku => k_extra "units"); intro R9 hS9 D9 t9 u9 c9 h9 tk9 F9 N9 l1; (obtain ⟨hR9, hn9, hd9⟩ := hS9); (try k_extra "ops"); (try k_lt l1); (try dsimp only); (try k_fold))))
  (k_with "cc" => (k_here; (with_reducible show wpAny _ _ (call (Value.ref 96) _) _ _ _); k_dflt (
   refine' Cl.use (neg_e _ _ _ _ _ ?kx ?kP ?kz1 ?kz2) ?k1 ?k2 ?k3 ?k4 ?k5 ?kK ?kd ?ku ?_;
   (case k1 => k_asm); (case k2 => k_asm); (case k3 => k_asm); (case k4 => k_asm); (case k5 => k_asm); (case kK => first | exact rfl | assumption);
   (case kx => k_mem); (case kP => first | with_reducible exact ratIs_self _ | with_reducible exact ratIs_int _ | with_reducible assumption | fail "rat_is"); (case kz1 => bits_by_make); (case kz2 => bits_by_make);
   (case kd => k_extra "room"); (case ku => k_extra "units"); intro R9 hS9 D9 t9 u9 c9 h9 tk9 F9 N9 l1; (obtain ⟨hR9, hn9, hd9⟩ := hS9); (try k_extra "ops"); (try k_lt l1); (try dsimp only); (try k_fold))))
  (k_with "bbm" => (k_extra "bits"))
  (k_with "fdiv" => (k_dflt (refine' fdiv_k ?fa ?fb ?fc ?_; (case fa => exact fr_ne (by assumption) (by assumption) (by assumption) (by assumption) (by assumption)); (case fb => exact fr_bits (by assumption) (by assumption) (by assumption) (by assumption) (by assumption) (by assumption)); (case fc => decide); k_whole)))
  (k_with "cc" => (k_here; (with_reducible show wpAny _ _ (call (Value.ref 103) _) _ _ _); k_dflt (
   refine' Cl.use (root_c _ _ _ _ _ _ _ ?kp ?kz ?kn) ?k1 ?k2 ?k3 ?k4 ?k5 ?kK ?kd ?ku ?_;
   (case k1 => k_asm); (case k2 => k_asm); (case k3 => k_asm); (case k4 => k_asm); (case k5 => k_asm); (case kK => first | exact rfl | assumption);
   (case kp => first | with_reducible exact sq2_nn _ _ | with_reducible exact sqp_nn _ _ | omega); (case kz => bits_by_make); (case kn => decide); (case kd => k_extra "room"); (case ku => k_extra "units"); intro r9 t9 h9 tk9 hS9 F9 N9; (try k_extra "root"); (try dsimp only); (try k_fold))))
  (k_with "cc" => (k_here; (with_reducible show wpAny _ _ (call (Value.ref 250) _) _ _ _); k_dflt (
   refine' Cl.use (lfrac_e _ _ _ _ _ _ _ _ _ ?kp ?ky ?kz ?kn) ?k1 ?k2 ?k3 ?k4 ?k5 ?kK ?kd ?ku ?_;
   (case k1 => k_asm); (case k2 => k_asm); (case k3 => k_asm); (case k4 => k_asm); (case k5 => k_asm); (case kK => first | exact rfl | assumption);
   (case kp => first | with_reducible assumption | k_extra "pos" | omega); (case ky => bits_by_make); (case kz => bits_by_make); (case kn => decide); (case kd => k_extra "room"); (case ku => k_extra "units"); intro R9 hS9 D9 t9 u9 c9 h9 tk9 F9 N9 l1; (obtain ⟨hR9, hn9, hd9⟩ := hS9); (try k_extra "lfrac"); (try k_lt l1); (try dsimp only); (try k_fold))))
  (k_with "cc" => (k_here; (with_reducible show wpAny _ _ (call (Value.ref 257) _) _ _ _); k_dflt (
   refine' Cl.use (near_c _ _ _ _ _ _ _ _ _ ?kp) ?k1 ?k2 ?k3 ?k4 ?k5 ?kK ?kd ?ku ?_;
   (case k1 => k_asm); (case k2 => k_asm); (case k3 => k_asm); (case k4 => k_asm); (case k5 => k_asm); (case kK => first | exact rfl | assumption);
   (case kp => first | assumption | k_extra "near"); (case kd => k_extra "room"); (case ku => k_extra "units"); intro h9 tk9 F9 N9; (try dsimp only); (try k_fold))))
  (k_with "cc" => (k_here; (with_reducible show wpAny _ _ (call (Value.ref 211) _) _ _ _); k_dflt (
   refine' Cl.use (side_e _ _ _ _ _ ?m1 ?m2 ?hX ?hY ?y1 ?y2 ?y3 ?y4 ?y5 ?y6) ?k1 ?k2 ?k3 ?k4 ?k5 ?kK ?kd ?ku ?_;
   (case k1 => k_asm); (case k2 => k_asm); (case k3 => k_asm); (case k4 => k_asm); (case k5 => k_asm); (case kK => first | exact rfl | assumption);
   (case m1 => k_mem); (case m2 => k_mem); (case hX => assumption); (case hY => assumption); (case y1 => assumption); (case y2 => assumption); (case y3 => k_extra "b70"); (case y4 => k_extra "b70"); (case y5 => k_extra "b70"); (case y6 => k_extra "b70"); (case kd => k_extra "room"); (case ku => k_extra "units");
   intro r9 I9 d9 wy9 k91 k92 k93 k94 u91 u92 u93 c9 h9 tk9 hS9 F9 N9; (try k_extra "side"); (try dsimp only); (try k_fold))))
  (k_with "cc" => (k_here; (with_reducible show wpAny _ _ (call (Value.ref 208) _) _ _ _); k_dflt (
   refine' Cl.use (trn_c _ _ _ _ _ ?m1 ?m2 ?m3 ?kx ?y1 ?y2) ?k1 ?k2 ?k3 ?k4 ?k5 ?kK ?kd ?ku ?_;
   (case k1 => k_asm); (case k2 => k_asm); (case k3 => k_asm); (case k4 => k_asm); (case k5 => k_asm); (case kK => first | exact rfl | assumption);
   (case m1 => k_mem); (case m2 => k_mem); (case m3 => k_mem); (case kx => assumption); (case y1 => assumption); (case y2 => assumption); (case kd => k_extra "room"); (case ku => k_extra "units");
   intro r9 C9 S9 D9 D91 D92 u91 u92 u93 u94 c9 c91 c92 h9 tk9 hS9 F9 N9; (obtain ⟨hT9, x1, x2, x3, x4⟩ := hS9); (try k_extra "trn"); (try dsimp only); (try k_fold))))
  (k_with "cc" => (k_here; (with_reducible show wpAny _ _ (call (Value.ref 162) _) _ _ _); k_dflt (
   refine' call_cls ?k1 ?k2 ?k3 ?k4 ?k5 ?k6 ?_; (case k1 => k_asm); (case k2 => k_asm); (case k3 => k_asm); (case k4 => k_is); (case k5 => k_is); (case k6 => k_is); k_whole; intro x' d' h' F' N' l1 l2; (try k_lt l1); (try k_lt2 l2); (try k_sweep); cell_enter)))
  repeat' (first | (k_unfold; (try dsimp only)) | ((with_reducible show wpAny _ _ (exec _ _) _ _ _); k_fold; walk1) | walk1 | (dsimp only; walk1) | fail "no step")
  all_goals exact hret _ _ _ _ _ _ _ _ _ _ (by assumption) (by assumption)
abbrev RMat (w : World) (S : Rat → Rat → Rat → Rat → Rat → Rat → Prop) (news : Led) : Heap → Addr → (Str → Option Value) → Shared → (Value → Shared → Prop) → Prop :=
  fun h₀ L m s Q => ∀ (A B B2 D E F : Rat) (M dM a1 a2 a3 a4 a5 a6 : Addr) (k1 k2 k3 k4 k5 k6 t1 t2 t3 t4 t5 t6 u1 u2 u3 u4 u5 u6 : Tok) (c1 c2 c3 c4 c5 c6 : Nat) (h' : Heap) (tk' : Nat), S A B B2 D E F → Fr h₀ L h' m →
    News h₀ L h' ((M, instObj 162 dM) :: (dM, dictOf [{ hash := PyData.keyHash w.params (Str.ofString "a"), key := Value.str (Str.ofString "a") k1, val := Value.ref a1 }, { hash := PyData.keyHash w.params (Str.ofString "b"), key := Value.str (Str.ofString "b") k2, val := Value.ref a2 }, { hash := PyData.keyHash w.params (Str.ofString "c"), key := Value.str (Str.ofString "c") k3, val := Value.ref a3 }, { hash := PyData.keyHash w.params (Str.ofString "d"), key := Value.str (Str.ofString "d") k4, val := Value.ref a4 }, { hash := PyData.keyHash w.params (Str.ofString "e"), key := Value.str (Str.ofString "e") k5, val := Value.ref a5 }, { hash := PyData.keyHash w.params (Str.ofString "f"), key := Value.str (Str.ofString "f") k6, val := Value.ref a6 }] 6) :: (a1, ({ cls := .type "tuple", data := .seq #[.int A.num t1, .int (A.den : Int) u1] c1 } : Obj)) :: (a2, ({ cls := .type "tuple", data := .seq #[.int B.num t2, .int (B.den : Int) u2] c2 } : Obj)) :: (a3, ({ cls := .type "tuple", data := .seq #[.int B2.num t3, .int (B2.den : Int) u3] c3 } : Obj)) :: (a4, ({ cls := .type "tuple", data := .seq #[.int D.num t4, .int (D.den : Int) u4] c4 } : Obj)) :: (a5, ({ cls := .type "tuple", data := .seq #[.int E.num t5, .int (E.den : Int) u5] c5 } : Obj)) :: (a6, ({ cls := .type "tuple", data := .seq #[.int F.num t6, .int (F.den : Int) u6] c6 } : Obj)) :: news) → Q (.ref M) { s with heap := h', toks := tk' }
def MatIs (S H C N P0 P1 : Rat) (A B B2 D E F : Rat) : Prop := A = S * C ∧ B = S * N ∧ B2 = S * N ∧ D = -(S * C) ∧ E = P0 - C * (S * H) ∧ F = P1 - N * (S * H)
def Bit2 (n : Nat) (A : Rat) : Prop := intBits A.num ≤ n ∧ intBits (A.den : Int) ≤ n
theorem bit2 {A : Rat} {m n k : Nat} (h1 : intBits A.num ≤ m) (h2 : intBits (A.den : Int) ≤ n) (h : m ≤ k ∧ n ≤ k) : Bit2 k A := ⟨Nat.le_trans h1 h.1, Nat.le_trans h2 h.2⟩
set_option maxHeartbeats 8000000 in
theorem tmat_c (w : World) (mean : ExcName → Option Value) (mg mb : Str → Option Value) (news : Led) {s0 h0 t0 p0 tc ts px py : Addr} {hp hq : Int} {S H C N P0 P1 : Rat} {x1 x2 x3 x4 x5 x6 x7 x8 x9 x10 x11 x12 : Tok} {y1 y2 y3 y4 y5 y6 y7 y8 : Nat}
    (hs : (s0, ({ cls := .type "tuple", data := .seq #[.int S.num x1, .int (S.den : Int) x2] y1 } : Obj)) ∈ news)
    (hh : (h0, ({ cls := .type "tuple", data := .seq #[.int hp x3, .int hq x4] y2 } : Obj)) ∈ news) (hH : RatIs hp hq H)
    (ht : (t0, ({ cls := .type "tuple", data := .seq #[.ref tc, .ref ts] y3 } : Obj)) ∈ news)
    (htc : (tc, ({ cls := .type "tuple", data := .seq #[.int C.num x5, .int (C.den : Int) x6] y4 } : Obj)) ∈ news)
    (hts : (ts, ({ cls := .type "tuple", data := .seq #[.int N.num x7, .int (N.den : Int) x8] y5 } : Obj)) ∈ news)
    (hp0 : (p0, ({ cls := .type "tuple", data := .seq #[.ref px, .ref py] y6 } : Obj)) ∈ news)
    (hpx : (px, ({ cls := .type "tuple", data := .seq #[.int P0.num x9, .int (P0.den : Int) x10] y7 } : Obj)) ∈ news)
    (hpy : (py, ({ cls := .type "tuple", data := .seq #[.int P1.num x11, .int (P1.den : Int) x12] y8 } : Obj)) ∈ news)
    (z1 : intBits S.num ≤ 64) (z2 : intBits (S.den : Int) ≤ 64) (z3 : intBits hp ≤ 64) (z4 : intBits hq ≤ 64) (z5 : intBits C.num ≤ 200) (z6 : intBits (C.den : Int) ≤ 200) (z7 : intBits N.num ≤ 200) (z8 : intBits (N.den : Int) ≤ 200)
    (z9 : intBits P0.num ≤ 64) (z10 : intBits (P0.den : Int) ≤ 64) (z11 : intBits P1.num ≤ 64) (z12 : intBits (P1.den : Int) ≤ 64) :
    Cl w mean mg mb 222 [.ref s0, .ref h0, .ref t0, .ref p0] news 20
      (RMat w (fun A B B2 D E F => MatIs S H C N P0 P1 A B B2 D E F ∧ Bit2 1000 A ∧ Bit2 1000 B ∧ Bit2 1000 B2 ∧ Bit2 1000 D ∧ Bit2 1000 E ∧ Bit2 1000 F) news) := by
  unfold Cl RMat
  k_fill
  intro dp un gd cn cs a ccd cl outer A₀ base h₀ L m s Q' E' BB F X NN T hk hdp hun hret
  refine wpAny_call ?_
  k_with_none
  (k_with "bbm" => (first
  | with_reducible assumption
  | ((with_reducible apply bits_mnum) <;> bits_by_make)
  | ((with_reducible apply bits_mden) <;> bits_by_make)
  | ((with_reducible apply bits_anum) <;> bits_by_make)
  | ((with_reducible apply bits_aden) <;> bits_by_make)
  | ((with_reducible apply bits_snum) <;> bits_by_make)
  | ((with_reducible apply bits_sden) <;> bits_by_make)
  | ((with_reducible apply bits_nnum) <;> bits_by_make)
  | ((with_reducible apply bits_nden) <;> bits_by_make)
  | fail "bits"))
  (k_with "enter" => ((refine' code_def ?k1 ?k2 ?k3 ?k4 ?k5 ?kA ?kF ?kK ?k6 ?k7 ?k8 ?k9 ?kB ?_ ?c2 ?c3 ?c4 ?c5; (case kA => exact rfl); (case kF => exact rfl); (case kK => assumption); (case k1 => k_asm); (case k2 => k_asm); (case k3 => k_asm); (case k4 => k_asm); (case k5 => k_asm); (case k6 => k_is); (case k7 => k_is); (case k8 => k_extra "room"); (case k9 => first | exact BindsTo.of_eq rfl | exact binds_K (by k_in) rfl (by k_is) rfl rfl rfl); (case c5 => decide); (case kB => exact locs rfl); (case c2 => exact rfl); (case c3 => exact rfl); (case c4 => exact rfl); k_whole; intro g' L' h' FG' F' N' B' X' T'; (try dsimp only); (try k_lift B'); (try k_fold))))
  (k_with "room" => first
    | ((try simp only [depth_under_make, depth_under_kw, depth_in1, depth_deeper, depth_caller]); decide)
    | ((try simp only [depth_under_make, depth_under_kw, depth_in1, depth_deeper, depth_caller]); (try dsimp only [ktrTop]); refine Nat.lt_of_le_of_lt ?_ hdp; (try simp only [Nat.add_assoc]); exact Nat.add_le_add_left (by decide) _)
    | ktr_room)
  (k_with "units" => first
    | ((simp only [units_under_make, units_in1, units_deeper, Around.mark_units, units_caller]); (try dsimp only [ktrTop]); refine Nat.lt_of_le_of_lt ?_ hun; (try simp only [Nat.add_assoc]); exact Nat.add_le_add_left (by decide) _)
    | ((simp only [units_under_make, units_in1, units_deeper, Around.mark_units, units_caller]); rw [cLine_is]; decide)
    | ktr_units)
  (k_with "fdiv" => (k_dflt (refine' fdiv_k ?fa ?fb ?fc ?_; (case fa => omega); (case fb => bits_by_make); (case fc => decide); k_whole)))
  (k_with "subT" => (k_here; (with_reducible show wpAny _ _ (subscriptTail _ _ (Value.ref _) (Value.int _ _)) _ _ _); k_dflt (refine' item_tupleT ?t ?a ?b ?c ?d ?_; (case t => exact News.isTup (by k_asm) (by k_mem)); (case a => decide); (case b => decide); (case c => rfl); (case d => rfl); k_whole)))
  (k_with "cc" => (k_here; (with_reducible show wpAny _ _ (call (Value.ref 60) _) _ _ _); k_dflt (
   refine' Cl.use (gcd_c _ _ _ _ _ _ _ _ _ ?kp) ?k1 ?k2 ?k3 ?k4 ?k5 ?kK ?kd ?ku ?_;
   (case k1 => k_asm); (case k2 => k_asm); (case k3 => k_asm); (case k4 => k_asm); (case k5 => k_asm); (case kK => first | exact rfl | assumption);
   (case kp => first | assumption | omega); (case kd => k_extra "room"); (case ku => k_extra "units"); intro t9 h9 tk9 F9 N9; (try dsimp only); (try k_fold))))
  (k_with "cc" => (k_here; (with_reducible show wpAny _ _ (call (Value.ref 68) _) _ _ _); k_dflt (
   refine' Cl.use (frac_c _ _ _ _ _ _ _ _ _ ?kp ?kz ?kn) ?k1 ?k2 ?k3 ?k4 ?k5 ?kK ?kd ?ku ?_;
   (case k1 => k_asm); (case k2 => k_asm); (case k3 => k_asm); (case k4 => k_asm); (case k5 => k_asm); (case kK => first | exact rfl | assumption);
   (case kp => first | assumption | omega); (case kz => bits_by_make); (case kn => decide); (case kd => k_extra "room"); (case ku => k_extra "units"); intro D9 t9 u9 c9 h9 tk9 F9 N9 l1; (try k_lt l1); (try dsimp only); (try k_fold))))
  (k_with "cc" => (k_here; (with_reducible show wpAny _ _ (call (Value.ref 89) _) _ _ _); k_dflt (
   refine' Cl.use (times_c _ _ _ _ _ ?kx ?ky ?kP ?kQ ?kz1 ?kz2 ?kz3 ?kz4 ?kn) ?k1 ?k2 ?k3 ?k4 ?k5 ?kK ?kd ?ku ?_;
   (case k1 => k_asm); (case k2 => k_asm); (case k3 => k_asm); (case k4 => k_asm); (case k5 => k_asm); (case kK => first | exact rfl | assumption);
   (case kx => k_mem); (case ky => k_mem); (case kP => first | with_reducible exact ratIs_self _ | with_reducible exact ratIs_int _ | with_reducible assumption | fail "rat_is"); (case kQ => first | with_reducible exact ratIs_self _ | with_reducible exact ratIs_int _ | with_reducible assumption | fail "rat_is"); (case kz1 => bits_by_make); (case kz2 => bits_by_make); (case kz3 => bits_by_make); (case kz4 => bits_by_make);
   (case kn => decide); (case kd => k_extra "room"); (case ku => k_extra "units"); intro D9 t9 u9 c9 h9 tk9 F9 N9 l1; (try k_lt l1); (try dsimp only); (try k_fold))))
  (k_with "cc" => (k_here; (with_reducible show wpAny _ _ (call (Value.ref 75) _) _ _ _); k_dflt (
   refine' Cl.use (plus_c _ _ _ _ _ ?kx ?ky ?kP ?kQ ?kz1 ?kz2 ?kz3 ?kz4 ?kn) ?k1 ?k2 ?k3 ?k4 ?k5 ?kK ?kd ?ku ?_;
   (case k1 => k_asm); (case k2 => k_asm); (case k3 => k_asm); (case k4 => k_asm); (case k5 => k_asm); (case kK => first | exact rfl | assumption);
   (case kx => k_mem); (case ky => k_mem); (case kP => first | with_reducible exact ratIs_self _ | with_reducible exact ratIs_int _ | with_reducible assumption | fail "rat_is"); (case kQ => first | with_reducible exact ratIs_self _ | with_reducible exact ratIs_int _ | with_reducible assumption | fail "rat_is"); (case kz1 => bits_by_make); (case kz2 => bits_by_make); (case kz3 => bits_by_make); (case kz4 => bits_by_make);
   (case kn => decide); (case kd => k_extra "room"); (case ku => k_extra "units"); intro D9 t9 u9 c9 h9 tk9 F9 N9 l1; (try k_lt l1); (try dsimp only); (try k_fold))))
  (k_with "cc" => (k_here; (with_reducible show wpAny _ _ (call (Value.ref 82) _) _ _ _); k_dflt (
   refine' Cl.use (minus_c _ _ _ _ _ ?kx ?ky ?kP ?kQ ?kz1 ?kz2 ?kz3 ?kz4 ?kn) ?k1 ?k2 ?k3 ?k4 ?k5 ?kK ?kd ?ku ?_;
   (case k1 => k_asm); (case k2 => k_asm); (case k3 => k_asm); (case k4 => k_asm); (case k5 => k_asm); (case kK => first | exact rfl | assumption);
   (case kx => k_mem); (case ky => k_mem); (case kP => first | with_reducible exact ratIs_self _ | with_reducible exact ratIs_int _ | with_reducible assumption | fail "rat_is"); (case kQ => first | with_reducible exact ratIs_self _ | with_reducible exact ratIs_int _ | with_reducible assumption | fail "rat_is"); (case kz1 => bits_by_make); (case kz2 => bits_by_make); (case kz3 => bits_by_make); (case kz4 => bits_by_make);
   (case kn => decide); (case kd => k_extra "room"); (case ku => k_extra "units"); intro D9 t9 u9 c9 h9 tk9 F9 N9 l1; (try k_lt l1); (try dsimp only); (try k_fold))))
  (k_with "cc" => (k_here; (with_reducible show wpAny _ _ (call (Value.ref 96) _) _ _ _); k_dflt (
   refine' Cl.use (neg_c _ _ _ _ _ ?kx ?kP) ?k1 ?k2 ?k3 ?k4 ?k5 ?kK ?kd ?ku ?_;
   (case k1 => k_asm); (case k2 => k_asm); (case k3 => k_asm); (case k4 => k_asm); (case k5 => k_asm); (case kK => first | exact rfl | assumption);
   (case kx => k_mem); (case kP => first | with_reducible exact ratIs_self _ | with_reducible exact ratIs_int _ | with_reducible assumption | fail "rat_is");
   (case kd => k_extra "room"); (case ku => k_extra "units"); intro D9 t9 u9 c9 h9 tk9 F9 N9 l1; (try k_lt l1); (try dsimp only); (try k_fold))))
  (k_with "cc" => (k_here; (with_reducible show wpAny _ _ (call (Value.ref 68) _) _ _ _); k_dflt (
   refine' Cl.use (frac_e _ _ _ _ _ _ _ _ _ ?kp ?ky ?kz ?kn) ?k1 ?k2 ?k3 ?k4 ?k5 ?kK ?kd ?ku ?_;
   (case k1 => k_asm); (case k2 => k_asm); (case k3 => k_asm); (case k4 => k_asm); (case k5 => k_asm); (case kK => first | exact rfl | assumption);
   (case kp => first | with_reducible assumption | omega); (case ky => bits_by_make); (case kz => bits_by_make); (case kn => decide); (case kd => k_extra "room"); (case ku => k_extra "units"); intro R9 hS9 D9 t9 u9 c9 h9 tk9 F9 N9 l1; (obtain ⟨hR9, hn9, hd9⟩ := hS9); (try k_extra "frac"); (try k_lt l1); (try dsimp only); (try k_fold))))
  (k_with "cc" => (k_here; (with_reducible show wpAny _ _ (call (Value.ref 89) _) _ _ _); k_dflt (
   refine' Cl.use (times_e _ _ _ _ _ ?kx ?ky ?kP ?kQ ?kz1 ?kz2 ?kz3 ?kz4 ?kn) ?k1 ?k2 ?k3 ?k4 ?k5 ?kK ?kd ?ku ?_;
   (case k1 => k_asm); (case k2 => k_asm); (case k3 => k_asm); (case k4 => k_asm); (case k5 => k_asm); (case kK => first | exact rfl | assumption);
   (case kx => k_mem); (case ky => k_mem); (case kP => first | with_reducible exact ratIs_self _ | with_reducible exact ratIs_int _ | with_reducible assumption | fail "rat_is"); (case kQ => first | with_reducible exact ratIs_self _ | with_reducible exact ratIs_int _ | with_reducible assumption | fail "rat_is"); (case kz1 => bits_by_make); (case kz2 => bits_by_make); (case kz3 => bits_by_make); (case kz4 => bits_by_make);
   (case kn => decide); (case kd => k_extra "room"); (case ku => k_extra "units"); intro R9 hS9 D9 t9 u9 c9 h9 tk9 F9 N9 l1; (obtain ⟨hR9, hn9, hd9⟩ := hS9); (try k_extra "ops"); (try k_lt l1); (try dsimp only); (try k_fold))))
  (k_with "cc" => (k_here; (with_reducible show wpAny _ _ (call (Value.ref 75) _) _ _ _); k_dflt (
   refine' Cl.use (plus_e _ _ _ _ _ ?kx ?ky ?kP ?kQ ?kz1 ?kz2 ?kz3 ?kz4 ?kn) ?k1 ?k2 ?k3 ?k4 ?k5 ?kK ?kd ?ku ?_;
   (case k1 => k_asm); (case k2 => k_asm); (case k3 => k_asm); (case k4 => k_asm); (case k5 => k_asm); (case kK => first | exact rfl | assumption);
   (case kx => k_mem); (case ky => k_mem); (case kP => first | with_reducible exact ratIs_self _ | with_reducible exact ratIs_int _ | with_reducible assumption | fail "rat_is"); (case kQ => first | with_reducible exact ratIs_self _ | with_reducible exact ratIs_int _ | with_reducible assumption | fail "rat_is"); (case kz1 => bits_by_make); (case kz2 => bits_by_make); (case kz3 => bits_by_make); (case kz4 => bits_by_make);
   (case kn => decide); (case kd => k_extra "room"); (case ku => k_extra "units"); intro R9 hS9 D9 t9 u9 c9 h9 tk9 F9 N9 l1; (obtain ⟨hR9, hn9, hd9⟩ := hS9); (try k_extra "ops"); (try k_lt l1); (try dsimp only); (try k_fold))))
  (k_with "cc" => (k_here; (with_reducible show wpAny _ _ (call (Value.ref 82) _) _ _ _); k_dflt (
   refine' Cl.use (minus_e _ _ _ _ _ ?kx ?ky ?kP ?kQ ?kz1 ?kz2 ?kz3 ?kz4 ?kn) ?k1 ?k2 ?k3 ?k4 ?k5 ?kK ?kd ?ku ?_;
   (case k1 => k_asm); (case k2 => k_asm); (case k3 => k_asm); (case k4 => k_asm); (case k5 => k_asm); (case kK => first | exact rfl | assumption);
   (case kx => k_mem); (case ky => k_mem); (case kP => first | with_reducible exact ratIs_self _ | with_reducible exact ratIs_int _ | with_reducible assumption | fail "rat_is"); (case kQ => first | with_reducible exact ratIs_self _ | with_reducible exact ratIs_int _ | with_reducible assumption | fail "rat_is"); (case kz1 => bits_by_make); (case kz2 => bits_by_make); (case kz3 => bits_by_make); (case kz4 => bits_by_make);
   (case kn => decide); (case kd => k_extra "room"); (case ku => k_extra "units"); intro R9 hS9 D9 t9 u9 c9 h9 tk9 F9 N9 l1; (obtain ⟨hR9, hn9, hd9⟩ := hS9); (try k_extra "ops"); (try k_lt l1); (try dsimp only); (try k_fold))))
  (k_with "cc" => (k_here; (with_reducible show wpAny _ _ (call (Value.ref 96) _) _ _ _); k_dflt (
   refine' Cl.use (neg_e _ _ _ _ _ ?kx ?kP ?kz1 ?kz2) ?k1 ?k2 ?k3 ?k4 ?k5 ?kK ?kd ?ku ?_;
   (case k1 => k_asm); (case k2 => k_asm); (case k3 => k_asm); (case k4 => k_asm); (case k5 => k_asm); (case kK => first | exact rfl | assumption);
   (case kx => k_mem); (case kP => first | with_reducible exact ratIs_self _ | with_reducible exact ratIs_int _ | with_reducible assumption | fail "rat_is"); (case kz1 => bits_by_make); (case kz2 => bits_by_make);
   (case kd => k_extra "room"); (case ku => k_extra "units"); intro R9 hS9 D9 t9 u9 c9 h9 tk9 F9 N9 l1; (obtain ⟨hR9, hn9, hd9⟩ := hS9); (try k_extra "ops"); (try k_lt l1); (try dsimp only); (try k_fold))))
  (k_with "bbm" => (k_extra "bits"))
  (k_with "fdiv" => (k_dflt (refine' fdiv_k ?fa ?fb ?fc ?_; (case fa => exact fr_ne (by assumption) (by assumption) (by assumption) (by assumption) (by assumption)); (case fb => exact fr_bits (by assumption) (by assumption) (by assumption) (by assumption) (by assumption) (by assumption)); (case fc => decide); k_whole)))
  (k_with "cc" => (k_here; (with_reducible show wpAny _ _ (call (Value.ref 103) _) _ _ _); k_dflt (
   refine' Cl.use (root_c _ _ _ _ _ _ _ ?kp ?kz ?kn) ?k1 ?k2 ?k3 ?k4 ?k5 ?kK ?kd ?ku ?_;
   (case k1 => k_asm); (case k2 => k_asm); (case k3 => k_asm); (case k4 => k_asm); (case k5 => k_asm); (case kK => first | exact rfl | assumption);
   (case kp => first | with_reducible exact sq2_nn _ _ | with_reducible exact sqp_nn _ _ | omega); (case kz => bits_by_make); (case kn => decide); (case kd => k_extra "room"); (case ku => k_extra "units"); intro r9 t9 h9 tk9 hS9 F9 N9; (try k_extra "root"); (try dsimp only); (try k_fold))))
  (k_with "cc" => (k_here; (with_reducible show wpAny _ _ (call (Value.ref 250) _) _ _ _); k_dflt (
   refine' Cl.use (lfrac_e _ _ _ _ _ _ _ _ _ ?kp ?ky ?kz ?kn) ?k1 ?k2 ?k3 ?k4 ?k5 ?kK ?kd ?ku ?_;
   (case k1 => k_asm); (case k2 => k_asm); (case k3 => k_asm); (case k4 => k_asm); (case k5 => k_asm); (case kK => first | exact rfl | assumption);
   (case kp => first | with_reducible assumption | k_extra "pos" | omega); (case ky => bits_by_make); (case kz => bits_by_make); (case kn => decide); (case kd => k_extra "room"); (case ku => k_extra "units"); intro R9 hS9 D9 t9 u9 c9 h9 tk9 F9 N9 l1; (obtain ⟨hR9, hn9, hd9⟩ := hS9); (try k_extra "lfrac"); (try k_lt l1); (try dsimp only); (try k_fold))))
  (k_with "cc" => (k_here; (with_reducible show wpAny _ _ (call (Value.ref 257) _) _ _ _); k_dflt (
   refine' Cl.use (near_c _ _ _ _ _ _ _ _ _ ?kp) ?k1 ?k2 ?k3 ?k4 ?k5 ?kK ?kd ?ku ?_;
   (case k1 => k_asm); (case k2 => k_asm); (case k3 => k_asm); (case k4 => k_asm); (case k5 => k_asm); (case kK => first | exact rfl | assumption);
   (case kp => first | assumption | k_extra "near"); (case kd => k_extra "room"); (case ku => k_extra "units"); intro h9 tk9 F9 N9; (try dsimp only); (try k_fold))))
  (k_with "cc" => (k_here; (with_reducible show wpAny _ _ (call (Value.ref 211) _) _ _ _); k_dflt (
   refine' Cl.use (side_e _ _ _ _ _ ?m1 ?m2 ?hX ?hY ?y1 ?y2 ?y3 ?y4 ?y5 ?y6) ?k1 ?k2 ?k3 ?k4 ?k5 ?kK ?kd ?ku ?_;
   (case k1 => k_asm); (case k2 => k_asm); (case k3 => k_asm); (case k4 => k_asm); (case k5 => k_asm); (case kK => first | exact rfl | assumption);
   (case m1 => k_mem); (case m2 => k_mem); (case hX => assumption); (case hY => assumption); (case y1 => assumption); (case y2 => assumption); (case y3 => k_extra "b70"); (case y4 => k_extra "b70"); (case y5 => k_extra "b70"); (case y6 => k_extra "b70"); (case kd => k_extra "room"); (case ku => k_extra "units");
   intro r9 I9 d9 wy9 k91 k92 k93 k94 u91 u92 u93 c9 h9 tk9 hS9 F9 N9; (try k_extra "side"); (try dsimp only); (try k_fold))))
  (k_with "cc" => (k_here; (with_reducible show wpAny _ _ (call (Value.ref 208) _) _ _ _); k_dflt (
   refine' Cl.use (trn_c _ _ _ _ _ ?m1 ?m2 ?m3 ?kx ?y1 ?y2) ?k1 ?k2 ?k3 ?k4 ?k5 ?kK ?kd ?ku ?_;
   (case k1 => k_asm); (case k2 => k_asm); (case k3 => k_asm); (case k4 => k_asm); (case k5 => k_asm); (case kK => first | exact rfl | assumption);
   (case m1 => k_mem); (case m2 => k_mem); (case m3 => k_mem); (case kx => assumption); (case y1 => assumption); (case y2 => assumption); (case kd => k_extra "room"); (case ku => k_extra "units");
   intro r9 C9 S9 D9 D91 D92 u91 u92 u93 u94 c9 c91 c92 h9 tk9 hS9 F9 N9; (obtain ⟨hT9, x1, x2, x3, x4⟩ := hS9); (try k_extra "trn"); (try dsimp only); (try k_fold))))
  (k_with "cc" => (k_here; (with_reducible show wpAny _ _ (call (Value.ref 162) _) _ _ _); k_dflt (
   refine' Cl.use (minit_c _ _ _ _ _) ?k1 ?k2 ?k3 ?k4 ?k5 ?kK ?kd ?ku ?_;
   (case k1 => k_asm); (case k2 => k_asm); (case k3 => k_asm); (case k4 => k_asm); (case k5 => k_asm); (case kK => first | exact rfl | assumption);
   (case kd => k_extra "room"); (case ku => k_extra "units");
   intro M9 d9 k91 k92 k93 k94 k95 k96 h9 tk9 F9 N9; (try dsimp only); (try k_fold))))
  k_dflt cell_enter
  (k_with "ops" => first | (have hq9 := isSub hR9; clear hq9; replace N9 := drop_2 N9) | (have hq9 := isNeg hR9; clear hq9; replace N9 := drop_2 N9))
  (k_with "mem" => first | exact hs | exact hh | exact ht | exact htc | exact hts | exact hp0 | exact hpx | exact hpy)
  repeat' (first | (k_unfold; (try dsimp only)) | ((with_reducible show wpAny _ _ (exec _ _) _ _ _); k_fold; walk1) | walk1 | (dsimp only; walk1) | fail "no step")
  all_goals (
    refine' hret _ _ _ _ _ _ _ _ _ _ _ _ _ _ _ _ _ _ _ _ _ _ _ _ _ _ _ _ _ _ _ _ _ _ _ _ _ _ _ _ ?hS (by assumption) (cb_drop (by assumption) ?hN)
    case hN =>
      refine List.forall_mem_cons.mpr ⟨by k_mem, List.forall_mem_cons.mpr ⟨by k_mem, List.forall_mem_cons.mpr ⟨by k_mem, List.forall_mem_cons.mpr ⟨by k_mem, List.forall_mem_cons.mpr ⟨by k_mem, List.forall_mem_cons.mpr ⟨by k_mem, List.forall_mem_cons.mpr ⟨by k_mem, List.forall_mem_cons.mpr ⟨by k_mem, ?_⟩⟩⟩⟩⟩⟩⟩⟩
      intro p hp
      repeat (first | exact hp | apply List.mem_cons_of_mem)
    case hS =>
      refine ⟨⟨by assumption, by assumption, by assumption, ?_, ?_, ?_⟩, bit2 (by assumption) (by assumption) (by decide), bit2 (by assumption) (by assumption) (by decide), bit2 (by assumption) (by assumption) (by decide), bit2 (by assumption) (by assumption) (by decide), bit2 (by assumption) (by assumption) (by decide), bit2 (by assumption) (by assumption) (by decide)⟩
      all_goals (subst_vars; rfl))
theorem rat_mul_den (q : Rat) : q * ((q.den : Int) : Rat) = (q.num : Rat) := by
  have h2 := q.den_pos
  have h3 : ((q.den : Int) : Rat) ≠ 0 := by
    intro h
    have h4 : ((q.den : Int) : Rat) = ((0 : Int) : Rat) := h
    have := Rat.intCast_inj.mp h4
    omega
  have h := Rat.num_divInt_den q
  rw [Rat.divInt_eq_div] at h
  generalize ((q.den : Int) : Rat) = d at *
  rw [← h]
  grind
theorem mat_cross {S C N T : Rat} (hT : T = -(S * S * (C * C + N * N))) :
    T.num * ((S.den : Int) * (S.den : Int) * ((C.den : Int) * (C.den : Int) * (N.den : Int) * (N.den : Int))) =
      -(S.num * S.num * (C.num * C.num * (N.den : Int) * (N.den : Int) + N.num * N.num * (C.den : Int) * (C.den : Int))) * (T.den : Int) := by
  have h1 := rat_mul_den S
  have h2 := rat_mul_den C
  have h3 := rat_mul_den N
  have h4 := rat_mul_den T
  refine Rat.intCast_inj.mp ?_
  simp only [Rat.intCast_mul, Rat.intCast_neg, Rat.intCast_add]
  rw [← h1, ← h2, ← h3, ← h4]
  generalize ((S.den : Int) : Rat) = p
  generalize ((C.den : Int) : Rat) = b
  generalize ((N.den : Int) : Rat) = d
  generalize ((T.den : Int) : Rat) = e
  rw [hT]
  grind
theorem mat_near {S C N T : Rat} (hS : S.num ≠ 0) (hT : T = -(S * S * (C * C + N * N)))
    (hE : (C.den : Int) * (C.den : Int) * (N.den : Int) * (N.den : Int) ≤ C.num * C.num * (N.den : Int) * (N.den : Int) + N.num * N.num * (C.den : Int) * (C.den : Int) ∧
      (C.num * C.num * (N.den : Int) * (N.den : Int) + N.num * N.num * (C.den : Int) * (C.den : Int) - (C.den : Int) * (C.den : Int) * (N.den : Int) * (N.den : Int)) * 16384 < (C.den : Int) * (C.den : Int) * (N.den : Int) * (N.den : Int)) :
    (T.den : Int) * S.num * S.num ≤ 0 - T.num * (S.den : Int) * (S.den : Int) ∧ (0 - T.num * (S.den : Int) * (S.den : Int) - (T.den : Int) * S.num * S.num) * 16384 < (T.den : Int) * S.num * S.num := by
  have hX := mat_cross hT
  have hB : 0 < (C.den : Int) * (C.den : Int) * (N.den : Int) * (N.den : Int) := by
    have h1 := C.den_pos
    have h2 := N.den_pos
    exact Int.mul_pos (Int.mul_pos (Int.mul_pos (by omega) (by omega)) (by omega)) (by omega)
  have hm : 0 < S.num * S.num := by
    rcases (show 0 < S.num ∨ S.num < 0 by omega) with h | h
    · exact Int.mul_pos h h
    · exact Int.mul_pos_of_neg_of_neg h h
  have hd : 0 < (T.den : Int) := by have := T.den_pos; omega
  generalize C.num * C.num * (N.den : Int) * (N.den : Int) + N.num * N.num * (C.den : Int) * (C.den : Int) = tI at *
  generalize (C.den : Int) * (C.den : Int) * (N.den : Int) * (N.den : Int) = bI at *
  generalize (T.den : Int) = e at *
  generalize (S.den : Int) = p at *
  generalize T.num = t at *
  generalize S.num = m at *
  have hdm : 0 < e * (m * m) := Int.mul_pos hd hm
  have e1 : (0 - t * p * p) * bI = e * (m * m) * tI := by
    have : t * (p * p * bI) = t * p * p * bI := by grind
    rw [this] at hX
    have : (0 - t * p * p) * bI = -(t * p * p * bI) := by grind
    rw [this, hX]
    grind
  constructor
  · refine le_cancel hB ?_
    rw [e1, Int.mul_assoc e m m]
    exact Int.mul_le_mul_of_nonneg_left hE.1 (by omega)
  · refine lt_cancel hB ?_
    have e2 : (0 - t * p * p - e * m * m) * 16384 * bI = ((0 - t * p * p) * bI - e * (m * m) * bI) * 16384 := by grind
    have e3 : (e * (m * m) * tI - e * (m * m) * bI) * 16384 = e * (m * m) * ((tI - bI) * 16384) := by grind
    rw [e2, e1, e3, Int.mul_assoc e m m]
    exact Int.mul_lt_mul_of_pos_left hE.2 hdm
theorem pt_x {S H C N P0 P1 A B B2 D E F U V W R : Rat} (hM : MatIs S H C N P0 P1 A B B2 D E F) (h1 : R = U + E) (h2 : U = V + W) (h3 : V = A * H) (h4 : W = B2 * ((0 : Int) : Rat)) : R = P0 := by
  obtain ⟨hA, hB, hB2, hD, hE, hF⟩ := hM
  have : ((0 : Int) : Rat) = 0 := rfl
  rw [h1, h2, h3, h4, hA, hE, this]
  grind
theorem pt_y {S H C N P0 P1 A B B2 D E F U V W R : Rat} (hM : MatIs S H C N P0 P1 A B B2 D E F) (h1 : R = U + F) (h2 : U = V + W) (h3 : V = B * H) (h4 : W = D * ((0 : Int) : Rat)) : R = P1 := by
  obtain ⟨hA, hB, hB2, hD, hE, hF⟩ := hM
  have : ((0 : Int) : Rat) = 0 := rfl
  rw [h1, h2, h3, h4, hB, hF, this]
  grind
theorem det_is {S H C N P0 P1 A B B2 D E F U V R : Rat} (hM : MatIs S H C N P0 P1 A B B2 D E F) (h1 : R = U - V) (h2 : U = A * D) (h3 : V = B * B2) : R = -(S * S * (C * C + N * N)) := by
  obtain ⟨hA, hB, hB2, hD, hE, hF⟩ := hM
  rw [h1, h2, h3, hA, hB, hB2, hD]
  grind
abbrev RDet (T : Rat) (news : Led) : Heap → Addr → (Str → Option Value) → Shared → (Value → Shared → Prop) → Prop :=
  fun h₀ L m s Q => ∀ (R : Rat) (D : Addr) (t u : Tok) (c : Nat) (h' : Heap) (tk' : Nat), R = T → Fr h₀ L h' m →
    News h₀ L h' ((D, ({ cls := .type "tuple", data := .seq #[.int R.num t, .int (R.den : Int) u] c } : Obj)) :: news) → Q (.ref D) { s with heap := h', toks := tk' }
set_option maxHeartbeats 8000000 in
theorem det_c (w : World) (mean : ExcName → Option Value) (mg mb : Str → Option Value) (news : Led) {M dM a1 a2 a3 a4 a5 a6 : Addr} {A B B2 D : Rat} {k1 k2 k3 k4 k5 k6 t1 t2 t3 t4 u1 u2 u3 u4 : Tok} {c1 c2 c3 c4 : Nat}
    (hM : (M, instObj 162 dM) ∈ news)
    (hd : (dM, dictOf [{ hash := PyData.keyHash w.params (Str.ofString "a"), key := Value.str (Str.ofString "a") k1, val := Value.ref a1 }, { hash := PyData.keyHash w.params (Str.ofString "b"), key := Value.str (Str.ofString "b") k2, val := Value.ref a2 }, { hash := PyData.keyHash w.params (Str.ofString "c"), key := Value.str (Str.ofString "c") k3, val := Value.ref a3 }, { hash := PyData.keyHash w.params (Str.ofString "d"), key := Value.str (Str.ofString "d") k4, val := Value.ref a4 }, { hash := PyData.keyHash w.params (Str.ofString "e"), key := Value.str (Str.ofString "e") k5, val := Value.ref a5 }, { hash := PyData.keyHash w.params (Str.ofString "f"), key := Value.str (Str.ofString "f") k6, val := Value.ref a6 }] 6) ∈ news)
    (h1 : (a1, ({ cls := .type "tuple", data := .seq #[.int A.num t1, .int (A.den : Int) u1] c1 } : Obj)) ∈ news) (h2 : (a2, ({ cls := .type "tuple", data := .seq #[.int B.num t2, .int (B.den : Int) u2] c2 } : Obj)) ∈ news) (h3 : (a3, ({ cls := .type "tuple", data := .seq #[.int B2.num t3, .int (B2.den : Int) u3] c3 } : Obj)) ∈ news) (h4 : (a4, ({ cls := .type "tuple", data := .seq #[.int D.num t4, .int (D.den : Int) u4] c4 } : Obj)) ∈ news)
    (z1 : intBits A.num ≤ 1000) (w1 : intBits (A.den : Int) ≤ 1000) (z2 : intBits B.num ≤ 1000) (w2 : intBits (B.den : Int) ≤ 1000) (z3 : intBits B2.num ≤ 1000) (w3 : intBits (B2.den : Int) ≤ 1000) (z4 : intBits D.num ≤ 1000) (w4 : intBits (D.den : Int) ≤ 1000) :
    Cl w mean mg mb 152 [.ref M] news 10 (RDet (A * D - B * B2) news) := by
  unfold Cl RDet
  k_fill
  intro dp un gd cn cs a ccd cl outer A₀ base h₀ L m s Q E' BB F' X NN T hk hdp hun hret
  refine wpAny_call ?_
  k_with_none
  (k_with "bbm" => (first
  | with_reducible assumption
  | ((with_reducible apply bits_mnum) <;> bits_by_make)
  | ((with_reducible apply bits_mden) <;> bits_by_make)
  | ((with_reducible apply bits_anum) <;> bits_by_make)
  | ((with_reducible apply bits_aden) <;> bits_by_make)
  | ((with_reducible apply bits_snum) <;> bits_by_make)
  | ((with_reducible apply bits_sden) <;> bits_by_make)
  | ((with_reducible apply bits_nnum) <;> bits_by_make)
  | ((with_reducible apply bits_nden) <;> bits_by_make)
  | fail "bits"))
  (k_with "enter" => ((refine' code_def ?k1 ?k2 ?k3 ?k4 ?k5 ?kA ?kF ?kK ?k6 ?k7 ?k8 ?k9 ?kB ?_ ?c2 ?c3 ?c4 ?c5; (case kA => exact rfl); (case kF => exact rfl); (case kK => assumption); (case k1 => k_asm); (case k2 => k_asm); (case k3 => k_asm); (case k4 => k_asm); (case k5 => k_asm); (case k6 => k_is); (case k7 => k_is); (case k8 => k_extra "room"); (case k9 => first | exact BindsTo.of_eq rfl | exact binds_K (by k_in) rfl (by k_is) rfl rfl rfl); (case c5 => decide); (case kB => exact locs rfl); (case c2 => exact rfl); (case c3 => exact rfl); (case c4 => exact rfl); k_whole; intro g' L' h' FG' F' N' B' X' T'; (try dsimp only); (try k_lift B'); (try k_fold))))
  (k_with "room" => first
    | ((try simp only [depth_under_make, depth_under_kw, depth_in1, depth_deeper, depth_caller]); decide)
    | ((try simp only [depth_under_make, depth_under_kw, depth_in1, depth_deeper, depth_caller]); (try dsimp only [ktrTop]); refine Nat.lt_of_le_of_lt ?_ hdp; (try simp only [Nat.add_assoc]); exact Nat.add_le_add_left (by decide) _)
    | ktr_room)
  (k_with "units" => first
    | ((simp only [units_under_make, units_in1, units_deeper, Around.mark_units, units_caller]); (try dsimp only [ktrTop]); refine Nat.lt_of_le_of_lt ?_ hun; (try simp only [Nat.add_assoc]); exact Nat.add_le_add_left (by decide) _)
    | ((simp only [units_under_make, units_in1, units_deeper, Around.mark_units, units_caller]); rw [cLine_is]; decide)
    | ktr_units)
  (k_with "fdiv" => (k_dflt (refine' fdiv_k ?fa ?fb ?fc ?_; (case fa => omega); (case fb => bits_by_make); (case fc => decide); k_whole)))
  (k_with "subT" => (k_here; (with_reducible show wpAny _ _ (subscriptTail _ _ (Value.ref _) (Value.int _ _)) _ _ _); k_dflt (refine' item_tupleT ?t ?a ?b ?c ?d ?_; (case t => exact News.isTup (by k_asm) (by k_mem)); (case a => decide); (case b => decide); (case c => rfl); (case d => rfl); k_whole)))
  (k_with "cc" => (k_here; (with_reducible show wpAny _ _ (call (Value.ref 60) _) _ _ _); k_dflt (
   refine' Cl.use (gcd_c _ _ _ _ _ _ _ _ _ ?kp) ?k1 ?k2 ?k3 ?k4 ?k5 ?kK ?kd ?ku ?_;
   (case k1 => k_asm); (case k2 => k_asm); (case k3 => k_asm); (case k4 => k_asm); (case k5 => k_asm); (case kK => first | exact rfl | assumption);
   (case kp => first | assumption | omega); (case kd => k_extra "room"); (case ku => k_extra "units"); intro t9 h9 tk9 F9 N9; (try dsimp only); (try k_fold))))
  (k_with "cc" => (k_here; (with_reducible show wpAny _ _ (call (Value.ref 68) _) _ _ _); k_dflt (
   refine' Cl.use (frac_c _ _ _ _ _ _ _ _ _ ?kp ?kz ?kn) ?k1 ?k2 ?k3 ?k4 ?k5 ?kK ?kd ?ku ?_;
   (case k1 => k_asm); (case k2 => k_asm); (case k3 => k_asm); (case k4 => k_asm); (case k5 => k_asm); (case kK => first | exact rfl | assumption);
   (case kp => first | assumption | omega); (case kz => bits_by_make); (case kn => decide); (case kd => k_extra "room"); (case ku => k_extra "units"); intro D9 t9 u9 c9 h9 tk9 F9 N9 l1; (try k_lt l1); (try dsimp only); (try k_fold))))
  (k_with "cc" => (k_here; (with_reducible show wpAny _ _ (call (Value.ref 89) _) _ _ _); k_dflt (
   refine' Cl.use (times_c _ _ _ _ _ ?kx ?ky ?kP ?kQ ?kz1 ?kz2 ?kz3 ?kz4 ?kn) ?k1 ?k2 ?k3 ?k4 ?k5 ?kK ?kd ?ku ?_;
   (case k1 => k_asm); (case k2 => k_asm); (case k3 => k_asm); (case k4 => k_asm); (case k5 => k_asm); (case kK => first | exact rfl | assumption);
   (case kx => k_mem); (case ky => k_mem); (case kP => first | with_reducible exact ratIs_self _ | with_reducible exact ratIs_int _ | with_reducible assumption | fail "rat_is"); (case kQ => first | with_reducible exact ratIs_self _ | with_reducible exact ratIs_int _ | with_reducible assumption | fail "rat_is"); (case kz1 => bits_by_make); (case kz2 => bits_by_make); (case kz3 => bits_by_make); (case kz4 => bits_by_make);
   (case kn => decide); (case kd => k_extra "room"); (case ku => k_extra "units"); intro D9 t9 u9 c9 h9 tk9 F9 N9 l1; (try k_lt l1); (try dsimp only); (try k_fold))))
  (k_with "cc" => (k_here; (with_reducible show wpAny _ _ (call (Value.ref 75) _) _ _ _); k_dflt (
   refine' Cl.use (plus_c _ _ _ _ _ ?kx ?ky ?kP ?kQ ?kz1 ?kz2 ?kz3 ?kz4 ?kn) ?k1 ?k2 ?k3 ?k4 ?k5 ?kK ?kd ?ku ?_;
   (case k1 => k_asm); (case k2 => k_asm); (case k3 => k_asm); (case k4 => k_asm); (case k5 => k_asm); (case kK => first | exact rfl | assumption);
   (case kx => k_mem); (case ky => k_mem); (case kP => first | with_reducible exact ratIs_self _ | with_reducible exact ratIs_int _ | with_reducible assumption | fail "rat_is"); (case kQ => first | with_reducible exact ratIs_self _ | with_reducible exact ratIs_int _ | with_reducible assumption | fail "rat_is"); (case kz1 => bits_by_make); (case kz2 => bits_by_make); (case kz3 => bits_by_make); (case kz4 => bits_by_make);
   (case kn => decide); (case kd => k_extra "room"); (case ku => k_extra "units"); intro D9 t9 u9 c9 h9 tk9 F9 N9 l1; (try k_lt l1); (try dsimp only); (try k_fold))))
  (k_with "cc" => (k_here; (with_reducible show wpAny _ _ (call (Value.ref 82) _) _ _ _); k_dflt (
   refine' Cl.use (minus_c _ _ _ _ _ ?kx ?ky ?kP ?kQ ?kz1 ?kz2 ?kz3 ?kz4 ?kn) ?k1 ?k2 ?k3 ?k4 ?k5 ?kK ?kd ?ku ?_;
   (case k1 => k_asm); (case k2 => k_asm); (case k3 => k_asm); (case k4 => k_asm); (case k5 => k_asm); (case kK => first | exact rfl | assumption);
   (case kx => k_mem); (case ky => k_mem); (case kP => first | with_reducible exact ratIs_self _ | with_reducible exact ratIs_int _ | with_reducible assumption | fail "rat_is"); (case kQ => first | with_reducible exact ratIs_self _ | with_reducible exact ratIs_int _ | with_reducible assumption | fail "rat_is"); (case kz1 => bits_by_make); (case kz2 => bits_by_make); (case kz3 => bits_by_make); (case kz4 => bits_by_make);
   (case kn => decide); (case kd => k_extra "room"); (case ku => k_extra "units"); intro D9 t9 u9 c9 h9 tk9 F9 N9 l1; (try k_lt l1); (try dsimp only); (try k_fold))))
  (k_with "cc" => (k_here; (with_reducible show wpAny _ _ (call (Value.ref 96) _) _ _ _); k_dflt (
   refine' Cl.use (neg_c _ _ _ _ _ ?kx ?kP) ?k1 ?k2 ?k3 ?k4 ?k5 ?kK ?kd ?ku ?_;
   (case k1 => k_asm); (case k2 => k_asm); (case k3 => k_asm); (case k4 => k_asm); (case k5 => k_asm); (case kK => first | exact rfl | assumption);
   (case kx => k_mem); (case kP => first | with_reducible exact ratIs_self _ | with_reducible exact ratIs_int _ | with_reducible assumption | fail "rat_is");
   (case kd => k_extra "room"); (case ku => k_extra "units"); intro D9 t9 u9 c9 h9 tk9 F9 N9 l1; (try k_lt l1); (try dsimp only); (try k_fold))))
  (k_with "cc" => (k_here; (with_reducible show wpAny _ _ (call (Value.ref 68) _) _ _ _); k_dflt (
   refine' Cl.use (frac_e _ _ _ _ _ _ _ _ _ ?kp ?ky ?kz ?kn) ?k1 ?k2 ?k3 ?k4 ?k5 ?kK ?kd ?ku ?_;
   (case k1 => k_asm); (case k2 => k_asm); (case k3 => k_asm); (case k4 => k_asm); (case k5 => k_asm); (case kK => first | exact rfl | assumption);
   (case kp => first | with_reducible assumption | omega); (case ky => bits_by_make); (case kz => bits_by_make); (case kn => decide); (case kd => k_extra "room"); (case ku => k_extra "units"); intro R9 hS9 D9 t9 u9 c9 h9 tk9 F9 N9 l1; (obtain ⟨hR9, hn9, hd9⟩ := hS9); (try k_extra "frac"); (try k_lt l1); (try dsimp only); (try k_fold))))
  (k_with "cc" => (k_here; (with_reducible show wpAny _ _ (call (Value.ref 89) _) _ _ _); k_dflt (
   refine' Cl.use (times_e _ _ _ _ _ ?kx ?ky ?kP ?kQ ?kz1 ?kz2 ?kz3 ?kz4 ?kn) ?k1 ?k2 ?k3 ?k4 ?k5 ?kK ?kd ?ku ?_;
   (case k1 => k_asm); (case k2 => k_asm); (case k3 => k_asm); (case k4 => k_asm); (case k5 => k_asm); (case kK => first | exact rfl | assumption);
   (case kx => k_mem); (case ky => k_mem); (case kP => first | with_reducible exact ratIs_self _ | with_reducible exact ratIs_int _ | with_reducible assumption | fail "rat_is"); (case kQ => first | with_reducible exact ratIs_self _ | with_reducible exact ratIs_int _ | with_reducible assumption | fail "rat_is"); (case kz1 => bits_by_make); (case kz2 => bits_by_make); (case kz3 => bits_by_make); (case kz4 => bits_by_make);
   (case kn => decide); (case kd => k_extra "room"); (case ku => k_extra "units"); intro R9 hS9 D9 t9 u9 c9 h9 tk9 F9 N9 l1; (obtain ⟨hR9, hn9, hd9⟩ := hS9); (try k_extra "ops"); (try k_lt l1); (try dsimp only); (try k_fold))))
  (k_with "cc" => (k_here; (with_reducible show wpAny _ _ (call (Value.ref 75) _) _ _ _); k_dflt (
   refine' Cl.use (plus_e _ _ _ _ _ ?kx ?ky ?kP ?kQ ?kz1 ?kz2 ?kz3 ?kz4 ?kn) ?k1 ?k2 ?k3 ?k4 ?k5 ?kK ?kd ?ku ?_;
   (case k1 => k_asm); (case k2 => k_asm); (case k3 => k_asm); (case k4 => k_asm); (case k5 => k_asm); (case kK => first | exact rfl | assumption);
   (case kx => k_mem); (case ky => k_mem); (case kP => first | with_reducible exact ratIs_self _ | with_reducible exact ratIs_int _ | with_reducible assumption | fail "rat_is"); (case kQ => first | with_reducible exact ratIs_self _ | with_reducible exact ratIs_int _ | with_reducible assumption | fail "rat_is"); (case kz1 => bits_by_make); (case kz2 => bits_by_make); (case kz3 => bits_by_make); (case kz4 => bits_by_make);
   (case kn => decide); (case kd => k_extra "room"); (case ku => k_extra "units"); intro R9 hS9 D9 t9 u9 c9 h9 tk9 F9 N9 l1; (obtain ⟨hR9, hn9, hd9⟩ := hS9); (try k_extra "ops"); (try k_lt l1); (try dsimp only); (try k_fold))))
  (k_with "cc" => (k_here; (with_reducible show wpAny _ _ (call (Value.ref 82) _) _ _ _); k_dflt (
   refine' Cl.use (minus_e _ _ _ _ _ ?kx ?ky ?kP ?kQ ?kz1 ?kz2 ?kz3 ?kz4 ?kn) ?k1 ?k2 ?k3 ?k4 ?k5 ?kK ?kd ?ku ?_;
   (case k1 => k_asm); (case k2 => k_asm); (case k3 => k_asm); (case k4 => k_asm); (case k5 => k_asm); (case kK => first | exact rfl | assumption);
   (case kx => k_mem); (case ky => k_mem); (case kP => first | with_reducible exact ratIs_self _ | with_reducible exact ratIs_int _ | with_reducible assumption | fail "rat_is"); (case kQ => first | with_reducible exact ratIs_self _ | with_reducible exact ratIs_int _ | with_reducible assumption | fail "rat_is"); (case kz1 => bits_by_make); (case kz2 => bits_by_make); (case kz3 => bits_by_make); (case kz4 => bits_by_make);
   (case kn => decide); (case kd => k_extra "room"); (case ku => k_extra "units"); intro R9 hS9 D9 t9 u9 c9 h9 tk9 F9 N9 l1; (obtain ⟨hR9, hn9, hd9⟩ := hS9); (try k_extra "ops"); (try k_lt l1); (try dsimp only); (try k_fold))))
  (k_with "cc" => (k_here; (with_reducible show wpAny _ _ (call (Value.ref 96) _) _ _ _); k_dflt (
   refine' Cl.use (neg_e _ _ _ _ _ ?kx ?kP ?kz1 ?kz2) ?k1 ?k2 ?k3 ?k4 ?k5 ?kK ?kd ?ku ?_;
   (case k1 => k_asm); (case k2 => k_asm); (case k3 => k_asm); (case k4 => k_asm); (case k5 => k_asm); (case kK => first | exact rfl | assumption);
   (case kx => k_mem); (case kP => first | with_reducible exact ratIs_self _ | with_reducible exact ratIs_int _ | with_reducible assumption | fail "rat_is"); (case kz1 => bits_by_make); (case kz2 => bits_by_make);
   (case kd => k_extra "room"); (case ku => k_extra "units"); intro R9 hS9 D9 t9 u9 c9 h9 tk9 F9 N9 l1; (obtain ⟨hR9, hn9, hd9⟩ := hS9); (try k_extra "ops"); (try k_lt l1); (try dsimp only); (try k_fold))))
  (k_with "bbm" => (k_extra "bits"))
  (k_with "fdiv" => (k_dflt (refine' fdiv_k ?fa ?fb ?fc ?_; (case fa => exact fr_ne (by assumption) (by assumption) (by assumption) (by assumption) (by assumption)); (case fb => exact fr_bits (by assumption) (by assumption) (by assumption) (by assumption) (by assumption) (by assumption)); (case fc => decide); k_whole)))
  (k_with "cc" => (k_here; (with_reducible show wpAny _ _ (call (Value.ref 103) _) _ _ _); k_dflt (
   refine' Cl.use (root_c _ _ _ _ _ _ _ ?kp ?kz ?kn) ?k1 ?k2 ?k3 ?k4 ?k5 ?kK ?kd ?ku ?_;
   (case k1 => k_asm); (case k2 => k_asm); (case k3 => k_asm); (case k4 => k_asm); (case k5 => k_asm); (case kK => first | exact rfl | assumption);
   (case kp => first | with_reducible exact sq2_nn _ _ | with_reducible exact sqp_nn _ _ | omega); (case kz => bits_by_make); (case kn => decide); (case kd => k_extra "room"); (case ku => k_extra "units"); intro r9 t9 h9 tk9 hS9 F9 N9; (try k_extra "root"); (try dsimp only); (try k_fold))))
  (k_with "cc" => (k_here; (with_reducible show wpAny _ _ (call (Value.ref 250) _) _ _ _); k_dflt (
   refine' Cl.use (lfrac_e _ _ _ _ _ _ _ _ _ ?kp ?ky ?kz ?kn) ?k1 ?k2 ?k3 ?k4 ?k5 ?kK ?kd ?ku ?_;
   (case k1 => k_asm); (case k2 => k_asm); (case k3 => k_asm); (case k4 => k_asm); (case k5 => k_asm); (case kK => first | exact rfl | assumption);
   (case kp => first | with_reducible assumption | k_extra "pos" | omega); (case ky => bits_by_make); (case kz => bits_by_make); (case kn => decide); (case kd => k_extra "room"); (case ku => k_extra "units"); intro R9 hS9 D9 t9 u9 c9 h9 tk9 F9 N9 l1; (obtain ⟨hR9, hn9, hd9⟩ := hS9); (try k_extra "lfrac"); (try k_lt l1); (try dsimp only); (try k_fold))))
  (k_with "cc" => (k_here; (with_reducible show wpAny _ _ (call (Value.ref 257) _) _ _ _); k_dflt (
   refine' Cl.use (near_c _ _ _ _ _ _ _ _ _ ?kp) ?k1 ?k2 ?k3 ?k4 ?k5 ?kK ?kd ?ku ?_;
   (case k1 => k_asm); (case k2 => k_asm); (case k3 => k_asm); (case k4 => k_asm); (case k5 => k_asm); (case kK => first | exact rfl | assumption);
   (case kp => first | assumption | k_extra "near"); (case kd => k_extra "room"); (case ku => k_extra "units"); intro h9 tk9 F9 N9; (try dsimp only); (try k_fold))))
  (k_with "cc" => (k_here; (with_reducible show wpAny _ _ (call (Value.ref 211) _) _ _ _); k_dflt (
   refine' Cl.use (side_e _ _ _ _ _ ?m1 ?m2 ?hX ?hY ?y1 ?y2 ?y3 ?y4 ?y5 ?y6) ?k1 ?k2 ?k3 ?k4 ?k5 ?kK ?kd ?ku ?_;
   (case k1 => k_asm); (case k2 => k_asm); (case k3 => k_asm); (case k4 => k_asm); (case k5 => k_asm); (case kK => first | exact rfl | assumption);
   (case m1 => k_mem); (case m2 => k_mem); (case hX => assumption); (case hY => assumption); (case y1 => assumption); (case y2 => assumption); (case y3 => k_extra "b70"); (case y4 => k_extra "b70"); (case y5 => k_extra "b70"); (case y6 => k_extra "b70"); (case kd => k_extra "room"); (case ku => k_extra "units");
   intro r9 I9 d9 wy9 k91 k92 k93 k94 u91 u92 u93 c9 h9 tk9 hS9 F9 N9; (try k_extra "side"); (try dsimp only); (try k_fold))))
  (k_with "cc" => (k_here; (with_reducible show wpAny _ _ (call (Value.ref 208) _) _ _ _); k_dflt (
   refine' Cl.use (trn_c _ _ _ _ _ ?m1 ?m2 ?m3 ?kx ?y1 ?y2) ?k1 ?k2 ?k3 ?k4 ?k5 ?kK ?kd ?ku ?_;
   (case k1 => k_asm); (case k2 => k_asm); (case k3 => k_asm); (case k4 => k_asm); (case k5 => k_asm); (case kK => first | exact rfl | assumption);
   (case m1 => k_mem); (case m2 => k_mem); (case m3 => k_mem); (case kx => assumption); (case y1 => assumption); (case y2 => assumption); (case kd => k_extra "room"); (case ku => k_extra "units");
   intro r9 C9 S9 D9 D91 D92 u91 u92 u93 u94 c9 c91 c92 h9 tk9 hS9 F9 N9; (obtain ⟨hT9, x1, x2, x3, x4⟩ := hS9); (try k_extra "trn"); (try dsimp only); (try k_fold))))
  (k_with "cc" => (k_here; (with_reducible show wpAny _ _ (call (Value.ref 162) _) _ _ _); k_dflt (
   refine' Cl.use (minit_c _ _ _ _ _) ?k1 ?k2 ?k3 ?k4 ?k5 ?kK ?kd ?ku ?_;
   (case k1 => k_asm); (case k2 => k_asm); (case k3 => k_asm); (case k4 => k_asm); (case k5 => k_asm); (case kK => first | exact rfl | assumption);
   (case kd => k_extra "room"); (case ku => k_extra "units");
   intro M9 d9 k91 k92 k93 k94 k95 k96 h9 tk9 F9 N9; (try dsimp only); (try k_fold))))
  (k_with "cc" => (k_here; (with_reducible show wpAny _ _ (call (Value.ref 222) _) _ _ _); k_dflt (
   refine' Cl.use (tmat_c _ _ _ _ _ ?m1 ?m2 ?mH ?m3 ?m4 ?m5 ?m6 ?m7 ?m8 ?z1 ?z2 ?z3 ?z4 ?z5 ?z6 ?z7 ?z8 ?z9 ?z10 ?z11 ?z12) ?k1 ?k2 ?k3 ?k4 ?k5 ?kK ?kd ?ku ?_;
   (case k1 => k_asm); (case k2 => k_asm); (case k3 => k_asm); (case k4 => k_asm); (case k5 => k_asm); (case kK => first | exact rfl | assumption);
   (case m1 => k_mem); (case m2 => k_mem); (case m3 => k_mem); (case m4 => k_mem); (case m5 => k_mem); (case m6 => k_mem); (case m7 => k_mem); (case m8 => k_mem); (case mH => first | with_reducible exact ratIs_self _ | with_reducible exact ratIs_int _ | with_reducible assumption | fail "rat_is");
   (case z1 => refine Nat.le_trans (by assumption) (by decide)); (case z2 => refine Nat.le_trans (by assumption) (by decide)); (case z3 => refine Nat.le_trans (by assumption) (by decide)); (case z4 => refine Nat.le_trans (by assumption) (by decide)); (case z5 => refine Nat.le_trans (by assumption) (by decide)); (case z6 => refine Nat.le_trans (by assumption) (by decide)); (case z7 => refine Nat.le_trans (by assumption) (by decide)); (case z8 => refine Nat.le_trans (by assumption) (by decide)); (case z9 => refine Nat.le_trans (by assumption) (by decide)); (case z10 => refine Nat.le_trans (by assumption) (by decide)); (case z11 => refine Nat.le_trans (by assumption) (by decide)); (case z12 => refine Nat.le_trans (by assumption) (by decide));
   (case kd => k_extra "room"); (case ku => k_extra "units");
   intro A9 B9 C9 D9 E9 G9 M9 d9 a91 a92 a93 a94 a95 a96 k91 k92 k93 k94 k95 k96 t91 t92 t93 t94 t95 t96 u91 u92 u93 u94 u95 u96 c91 c92 c93 c94 c95 c96 h9 tk9 hS9 F9 N9;
   (obtain ⟨hM9, ⟨x1, x2⟩, ⟨x3, x4⟩, ⟨x5, x6⟩, ⟨x7, x8⟩, ⟨x9, x10⟩, ⟨x11, x12⟩⟩ := hS9); (try k_extra "tmat"); (try dsimp only); (try k_fold))))
  k_dflt cell_enter
  (k_with "mem" => first | exact hM | exact hd | exact h1 | exact h2 | exact h3 | exact h4)
  repeat' (first | (k_unfold; (try dsimp only)) | ((with_reducible show wpAny _ _ (exec _ _) _ _ _); k_fold; walk1) | walk1 | (dsimp only; walk1) | fail "no step")
  all_goals (
    refine' hret _ _ _ _ _ _ _ ?hS (by assumption) (cb_drop (by assumption) ?hN)
    case hN =>
      refine List.forall_mem_cons.mpr ⟨by k_mem, ?_⟩
      intro p hp
      repeat (first | exact hp | apply List.mem_cons_of_mem)
    case hS => (subst_vars; rfl))
def PtIs (A B B2 D E F H G X Y : Rat) : Prop := X = A * H + B2 * G + E ∧ Y = B * H + D * G + F
abbrev RPt (A B B2 D E F H G : Rat) (news : Led) : Heap → Addr → (Str → Option Value) → Shared → (Value → Shared → Prop) → Prop :=
  fun h₀ L m s Q => ∀ (X Y : Rat) (D0 D1 D2 : Addr) (u1 u2 u3 u4 : Tok) (cD c1 c2 : Nat) (h' : Heap) (tk' : Nat), PtIs A B B2 D E F H G X Y → Fr h₀ L h' m →
    News h₀ L h' ((D0, ({ cls := .type "tuple", data := .seq #[.ref D1, .ref D2] cD } : Obj)) :: (D1, ({ cls := .type "tuple", data := .seq #[.int X.num u1, .int (X.den : Int) u2] c1 } : Obj)) :: (D2, ({ cls := .type "tuple", data := .seq #[.int Y.num u3, .int (Y.den : Int) u4] c2 } : Obj)) :: news) → Q (.ref D0) { s with heap := h', toks := tk' }
set_option maxHeartbeats 8000000 in
theorem pt_c (w : World) (mean : ExcName → Option Value) (mg mb : Str → Option Value) (news : Led) {M dM a1 a2 a3 a4 a5 a6 : Addr} {A B B2 D E F : Rat} {k1 k2 k3 k4 k5 k6 t1 t2 t3 t4 t5 t6 u1 u2 u3 u4 u5 u6 : Tok} {c1 c2 c3 c4 c5 c6 : Nat} {p0 px py : Addr} {hp hq gp gq : Int} {H G : Rat} {x1 x2 x3 x4 : Tok} {y1 y2 y3 : Nat}
    (hM : (M, instObj 162 dM) ∈ news)
    (hd : (dM, dictOf [{ hash := PyData.keyHash w.params (Str.ofString "a"), key := Value.str (Str.ofString "a") k1, val := Value.ref a1 }, { hash := PyData.keyHash w.params (Str.ofString "b"), key := Value.str (Str.ofString "b") k2, val := Value.ref a2 }, { hash := PyData.keyHash w.params (Str.ofString "c"), key := Value.str (Str.ofString "c") k3, val := Value.ref a3 }, { hash := PyData.keyHash w.params (Str.ofString "d"), key := Value.str (Str.ofString "d") k4, val := Value.ref a4 }, { hash := PyData.keyHash w.params (Str.ofString "e"), key := Value.str (Str.ofString "e") k5, val := Value.ref a5 }, { hash := PyData.keyHash w.params (Str.ofString "f"), key := Value.str (Str.ofString "f") k6, val := Value.ref a6 }] 6) ∈ news)
    (h1 : (a1, ({ cls := .type "tuple", data := .seq #[.int A.num t1, .int (A.den : Int) u1] c1 } : Obj)) ∈ news) (h2 : (a2, ({ cls := .type "tuple", data := .seq #[.int B.num t2, .int (B.den : Int) u2] c2 } : Obj)) ∈ news) (h3 : (a3, ({ cls := .type "tuple", data := .seq #[.int B2.num t3, .int (B2.den : Int) u3] c3 } : Obj)) ∈ news) (h4 : (a4, ({ cls := .type "tuple", data := .seq #[.int D.num t4, .int (D.den : Int) u4] c4 } : Obj)) ∈ news) (h5 : (a5, ({ cls := .type "tuple", data := .seq #[.int E.num t5, .int (E.den : Int) u5] c5 } : Obj)) ∈ news) (h6 : (a6, ({ cls := .type "tuple", data := .seq #[.int F.num t6, .int (F.den : Int) u6] c6 } : Obj)) ∈ news)
    (hp0 : (p0, ({ cls := .type "tuple", data := .seq #[.ref px, .ref py] y1 } : Obj)) ∈ news) (hpx : (px, ({ cls := .type "tuple", data := .seq #[.int hp x1, .int hq x2] y2 } : Obj)) ∈ news) (hpy : (py, ({ cls := .type "tuple", data := .seq #[.int gp x3, .int gq x4] y3 } : Obj)) ∈ news) (hH : RatIs hp hq H) (hG : RatIs gp gq G)
    (z1 : intBits A.num ≤ 1000) (w1 : intBits (A.den : Int) ≤ 1000) (z2 : intBits B.num ≤ 1000) (w2 : intBits (B.den : Int) ≤ 1000) (z3 : intBits B2.num ≤ 1000) (w3 : intBits (B2.den : Int) ≤ 1000) (z4 : intBits D.num ≤ 1000) (w4 : intBits (D.den : Int) ≤ 1000) (z5 : intBits E.num ≤ 1000) (w5 : intBits (E.den : Int) ≤ 1000) (z6 : intBits F.num ≤ 1000) (w6 : intBits (F.den : Int) ≤ 1000) (v1 : intBits hp ≤ 100) (v2 : intBits hq ≤ 100) (v3 : intBits gp ≤ 100) (v4 : intBits gq ≤ 100) :
    Cl w mean mg mb 138 [.ref M, .ref p0] news 20 (RPt A B B2 D E F H G news) := by
  unfold Cl RPt
  k_fill
  intro dp un gd cn cs a ccd cl outer A₀ base h₀ L m s Q E' BB F' X NN T hk hdp hun hret
  refine wpAny_call ?_
  k_with_none
  (k_with "bbm" => (first
  | with_reducible assumption
  | ((with_reducible apply bits_mnum) <;> bits_by_make)
  | ((with_reducible apply bits_mden) <;> bits_by_make)
  | ((with_reducible apply bits_anum) <;> bits_by_make)
  | ((with_reducible apply bits_aden) <;> bits_by_make)
  | ((with_reducible apply bits_snum) <;> bits_by_make)
  | ((with_reducible apply bits_sden) <;> bits_by_make)
  | ((with_reducible apply bits_nnum) <;> bits_by_make)
  | ((with_reducible apply bits_nden) <;> bits_by_make)
  | fail "bits"))
  (k_with "enter" => ((refine' code_def ?k1 ?k2 ?k3 ?k4 ?k5 ?kA ?kF ?kK ?k6 ?k7 ?k8 ?k9 ?kB ?_ ?c2 ?c3 ?c4 ?c5; (case kA => exact rfl); (case kF => exact rfl); (case kK => assumption); (case k1 => k_asm); (case k2 => k_asm); (case k3 => k_asm); (case k4 => k_asm); (case k5 => k_asm); (case k6 => k_is); (case k7 => k_is); (case k8 => k_extra "room"); (case k9 => first | exact BindsTo.of_eq rfl | exact binds_K (by k_in) rfl (by k_is) rfl rfl rfl); (case c5 => decide); (case kB => exact locs rfl); (case c2 => exact rfl); (case c3 => exact rfl); (case c4 => exact rfl); k_whole; intro g' L' h' FG' F' N' B' X' T'; (try dsimp only); (try k_lift B'); (try k_fold))))
  (k_with "room" => first
    | ((try simp only [depth_under_make, depth_under_kw, depth_in1, depth_deeper, depth_caller]); decide)
    | ((try simp only [depth_under_make, depth_under_kw, depth_in1, depth_deeper, depth_caller]); (try dsimp only [ktrTop]); refine Nat.lt_of_le_of_lt ?_ hdp; (try simp only [Nat.add_assoc]); exact Nat.add_le_add_left (by decide) _)
    | ktr_room)
  (k_with "units" => first
    | ((simp only [units_under_make, units_in1, units_deeper, Around.mark_units, units_caller]); (try dsimp only [ktrTop]); refine Nat.lt_of_le_of_lt ?_ hun; (try simp only [Nat.add_assoc]); exact Nat.add_le_add_left (by decide) _)
    | ((simp only [units_under_make, units_in1, units_deeper, Around.mark_units, units_caller]); rw [cLine_is]; decide)
    | ktr_units)
  (k_with "fdiv" => (k_dflt (refine' fdiv_k ?fa ?fb ?fc ?_; (case fa => omega); (case fb => bits_by_make); (case fc => decide); k_whole)))
  (k_with "subT" => (k_here; (with_reducible show wpAny _ _ (subscriptTail _ _ (Value.ref _) (Value.int _ _)) _ _ _); k_dflt (refine' item_tupleT ?t ?a ?b ?c ?d ?_; (case t => exact News.isTup (by k_asm) (by k_mem)); (case a => decide); (case b => decide); (case c => rfl); (case d => rfl); k_whole)))
  (k_with "cc" => (k_here; (with_reducible show wpAny _ _ (call (Value.ref 60) _) _ _ _); k_dflt (
   refine' Cl.use (gcd_c _ _ _ _ _ _ _ _ _ ?kp) ?k1 ?k2 ?k3 ?k4 ?k5 ?kK ?kd ?ku ?_;
   (case k1 => k_asm); (case k2 => k_asm); (case k3 => k_asm); (case k4 => k_asm); (case k5 => k_asm); (case kK => first | exact rfl | assumption);
   (case kp => first | assumption | omega); (case kd => k_extra "room"); (case ku => k_extra "units"); intro t9 h9 tk9 F9 N9; (try dsimp only); (try k_fold))))
  (k_with "cc" => (k_here; (with_reducible show wpAny _ _ (call (Value.ref 68) _) _ _ _); k_dflt (
   refine' Cl.use (frac_c _ _ _ _ _ _ _ _ _ ?kp ?kz ?kn) ?k1 ?k2 ?k3 ?k4 ?k5 ?kK ?kd ?ku ?_;
   (case k1 => k_asm); (case k2 => k_asm); (case k3 => k_asm); (case k4 => k_asm); (case k5 => k_asm); (case kK => first | exact rfl | assumption);
   (case kp => first | assumption | omega); (case kz => bits_by_make); (case kn => decide); (case kd => k_extra "room"); (case ku => k_extra "units"); intro D9 t9 u9 c9 h9 tk9 F9 N9 l1; (try k_lt l1); (try dsimp only); (try k_fold))))
  (k_with "cc" => (k_here; (with_reducible show wpAny _ _ (call (Value.ref 89) _) _ _ _); k_dflt (
   refine' Cl.use (times_c _ _ _ _ _ ?kx ?ky ?kP ?kQ ?kz1 ?kz2 ?kz3 ?kz4 ?kn) ?k1 ?k2 ?k3 ?k4 ?k5 ?kK ?kd ?ku ?_;
   (case k1 => k_asm); (case k2 => k_asm); (case k3 => k_asm); (case k4 => k_asm); (case k5 => k_asm); (case kK => first | exact rfl | assumption);
   (case kx => k_mem); (case ky => k_mem); (case kP => first | with_reducible exact ratIs_self _ | with_reducible exact ratIs_int _ | with_reducible assumption | fail "rat_is"); (case kQ => first | with_reducible exact ratIs_self _ | with_reducible exact ratIs_int _ | with_reducible assumption | fail "rat_is"); (case kz1 => bits_by_make); (case kz2 => bits_by_make); (case kz3 => bits_by_make); (case kz4 => bits_by_make);
   (case kn => decide); (case kd => k_extra "room"); (case ku => k_extra "units"); intro D9 t9 u9 c9 h9 tk9 F9 N9 l1; (try k_lt l1); (try dsimp only); (try k_fold))))
  (k_with "cc" => (k_here; (with_reducible show wpAny _ _ (call (Value.ref 75) _) _ _ _); k_dflt (
   refine' Cl.use (plus_c _ _ _ _ _ ?kx ?ky ?kP ?kQ ?kz1 ?kz2 ?kz3 ?kz4 ?kn) ?k1 ?k2 ?k3 ?k4 ?k5 ?kK ?kd ?ku ?_;
   (case k1 => k_asm); (case k2 => k_asm); (case k3 => k_asm); (case k4 => k_asm); (case k5 => k_asm); (case kK => first | exact rfl | assumption);
   (case kx => k_mem); (case ky => k_mem); (case kP => first | with_reducible exact ratIs_self _ | with_reducible exact ratIs_int _ | with_reducible assumption | fail "rat_is"); (case kQ => first | with_reducible exact ratIs_self _ | with_reducible exact ratIs_int _ | with_reducible assumption | fail "rat_is"); (case kz1 => bits_by_make); (case kz2 => bits_by_make); (case kz3 => bits_by_make); (case kz4 => bits_by_make);
   (case kn => decide); (case kd => k_extra "room"); (case ku => k_extra "units"); intro D9 t9 u9 c9 h9 tk9 F9 N9 l1; (try k_lt l1); (try dsimp only); (try k_fold))))
  (k_with "cc" => (k_here; (with_reducible show wpAny _ _ (call (Value.ref 82) _) _ _ _); k_dflt (
   refine' Cl.use (minus_c _ _ _ _ _ ?kx ?ky ?kP ?kQ ?kz1 ?kz2 ?kz3 ?kz4 ?kn) ?k1 ?k2 ?k3 ?k4 ?k5 ?kK ?kd ?ku ?_;
   (case k1 => k_asm); (case k2 => k_asm); (case k3 => k_asm); (case k4 => k_asm); (case k5 => k_asm); (case kK => first | exact rfl | assumption);
   (case kx => k_mem); (case ky => k_mem); (case kP => first | with_reducible exact ratIs_self _ | with_reducible exact ratIs_int _ | with_reducible assumption | fail "rat_is"); (case kQ => first | with_reducible exact ratIs_self _ | with_reducible exact ratIs_int _ | with_reducible assumption | fail "rat_is"); (case kz1 => bits_by_make); (case kz2 => bits_by_make); (case kz3 => bits_by_make); (case kz4 => bits_by_make);
   (case kn => decide); (case kd => k_extra "room"); (case ku => k_extra "units"); intro D9 t9 u9 c9 h9 tk9 F9 N9 l1; (try k_lt l1); (try dsimp only); (try k_fold))))
  (k_with "cc" => (k_here; (with_reducible show wpAny _ _ (call (Value.ref 96) _) _ _ _); k_dflt (
   refine' Cl.use (neg_c _ _ _ _ _ ?kx ?kP) ?k1 ?k2 ?k3 ?k4 ?k5 ?kK ?kd ?ku ?_;
   (case k1 => k_asm); (case k2 => k_asm); (case k3 => k_asm); (case k4 => k_asm); (case k5 => k_asm); (case kK => first | exact rfl | assumption);
   (case kx => k_mem); (case kP => first | with_reducible exact ratIs_self _ | with_reducible exact ratIs_int _ | with_reducible assumption | fail "rat_is");
   (case kd => k_extra "room"); (case ku => k_extra "units"); intro D9 t9 u9 c9 h9 tk9 F9 N9 l1; (try k_lt l1); (try dsimp only); (try k_fold))))
  (k_with "cc" => (k_here; (with_reducible show wpAny _ _ (call (Value.ref 68) _) _ _ _); k_dflt (
   refine' Cl.use (frac_e _ _ _ _ _ _ _ _ _ ?kp ?ky ?kz ?kn) ?k1 ?k2 ?k3 ?k4 ?k5 ?kK ?kd ?ku ?_;
   (case k1 => k_asm); (case k2 => k_asm); (case k3 => k_asm); (case k4 => k_asm); (case k5 => k_asm); (case kK => first | exact rfl | assumption);
   (case kp => first | with_reducible assumption | omega); (case ky => bits_by_make); (case kz => bits_by_make); (case kn => decide); (case kd => k_extra "room"); (case ku => k_extra "units"); intro R9 hS9 D9 t9 u9 c9 h9 tk9 F9 N9 l1; (obtain ⟨hR9, hn9, hd9⟩ := hS9); (try k_extra "frac"); (try k_lt l1); (try dsimp only); (try k_fold))))
  (k_with "cc" => (k_here; (with_reducible show wpAny _ _ (call (Value.ref 89) _) _ _ _); k_dflt (
   refine' Cl.use (times_e _ _ _ _ _ ?kx ?ky ?kP ?kQ ?kz1 ?kz2 ?kz3 ?kz4 ?kn) ?k1 ?k2 ?k3 ?k4 ?k5 ?kK ?kd ?ku ?_;
   (case k1 => k_asm); (case k2 => k_asm); (case k3 => k_asm); (case k4 => k_asm); (case k5 => k_asm); (case kK => first | exact rfl | assumption);
   (case kx => k_mem); (case ky => k_mem); (case kP => first | with_reducible exact ratIs_self _ | with_reducible exact ratIs_int _ | with_reducible assumption | fail "rat_is"); (case kQ => first | with_reducible exact ratIs_self _ | with_reducible exact ratIs_int _ | with_reducible assumption | fail "rat_is"); (case kz1 => bits_by_make); (case kz2 => bits_by_make); (case kz3 => bits_by_make); (case kz4 => bits_by_make);
   (case kn => decide); (case kd => k_extra "room"); (case ku => k_extra "units"); intro R9 hS9 D9 t9 u9 c9 h9 tk9 F9 N9 l1; (obtain ⟨hR9, hn9, hd9⟩ := hS9); (try k_extra "ops"); (try k_lt l1); (try dsimp only); (try k_fold))))
  (k_with "cc" => (k_here; (with_reducible show wpAny _ _ (call (Value.ref 75) _) _ _ _); k_dflt (
   refine' Cl.use (plus_e _ _ _ _ _ ?kx ?ky ?kP ?kQ ?kz1 ?kz2 ?kz3 ?kz4 ?kn) ?k1 ?k2 ?k3 ?k4 ?k5 ?kK ?kd ?ku ?_;
   (case k1 => k_asm); (case k2 => k_asm); (case k3 => k_asm); (case k4 => k_asm); (case k5 => k_asm); (case kK => first | exact rfl | assumption);
   (case kx => k_mem); (case ky => k_mem); (case kP => first | with_reducible exact ratIs_self _ | with_reducible exact ratIs_int _ | with_reducible assumption | fail "rat_is"); (case kQ => first | with_reducible exact ratIs_self _ | with_reducible exact ratIs_int _ | with_reducible assumption | fail "rat_is"); (case kz1 => bits_by_make); (case kz2 => bits_by_make); (case kz3 => bits_by_make); (case kz4 => bits_by_make);
   (case kn => decide); (case kd => k_extra "room"); (case ku => k_extra "units"); intro R9 hS9 D9 t9 u9 c9 h9 tk9 F9 N9 l1; (obtain ⟨hR9, hn9, hd9⟩ := hS9); (try k_extra "ops"); (try k_lt l1); (try dsimp only); (try k_fold))))
  (k_with "cc" => (k_here; (with_reducible show wpAny _ _ (call (Value.ref 82) _) _ _ _); k_dflt (
   refine' Cl.use (minus_e _ _ _ _ _ ?kx ?ky ?kP ?kQ ?kz1 ?kz2 ?kz3 ?kz4 ?kn) ?k1 ?k2 ?k3 ?k4 ?k5 ?kK ?kd ?ku ?_;
   (case k1 => k_asm); (case k2 => k_asm); (case k3 => k_asm); (case k4 => k_asm); (case k5 => k_asm); (case kK => first | exact rfl | assumption);
   (case kx => k_mem); (case ky => k_mem); (case kP => first | with_reducible exact ratIs_self _ | with_reducible exact ratIs_int _ | with_reducible assumption | fail "rat_is"); (case kQ => first | with_reducible exact ratIs_self _ | with_reducible exact ratIs_int _ | with_reducible assumption | fail "rat_is"); (case kz1 => bits_by_make); (case kz2 => bits_by_make); (case kz3 => bits_by_make); (case kz4 => bits_by_make);
   (case kn => decide); (case kd => k_extra "room"); (case ku => k_extra "units"); intro R9 hS9 D9 t9 u9 c9 h9 tk9 F9 N9 l1; (obtain ⟨hR9, hn9, hd9⟩ := hS9); (try k_extra "ops"); (try k_lt l1); (try dsimp only); (try k_fold))))
  (k_with "cc" => (k_here; (with_reducible show wpAny _ _ (call (Value.ref 96) _) _ _ _); k_dflt (
   refine' Cl.use (neg_e _ _ _ _ _ ?kx ?kP ?kz1 ?kz2) ?k1 ?k2 ?k3 ?k4 ?k5 ?kK ?kd ?ku ?_;
   (case k1 => k_asm); (case k2 => k_asm); (case k3 => k_asm); (case k4 => k_asm); (case k5 => k_asm); (case kK => first | exact rfl | assumption);
   (case kx => k_mem); (case kP => first | with_reducible exact ratIs_self _ | with_reducible exact ratIs_int _ | with_reducible assumption | fail "rat_is"); (case kz1 => bits_by_make); (case kz2 => bits_by_make);
   (case kd => k_extra "room"); (case ku => k_extra "units"); intro R9 hS9 D9 t9 u9 c9 h9 tk9 F9 N9 l1; (obtain ⟨hR9, hn9, hd9⟩ := hS9); (try k_extra "ops"); (try k_lt l1); (try dsimp only); (try k_fold))))
  (k_with "bbm" => (k_extra "bits"))
  (k_with "fdiv" => (k_dflt (refine' fdiv_k ?fa ?fb ?fc ?_; (case fa => exact fr_ne (by assumption) (by assumption) (by assumption) (by assumption) (by assumption)); (case fb => exact fr_bits (by assumption) (by assumption) (by assumption) (by assumption) (by assumption) (by assumption)); (case fc => decide); k_whole)))
  (k_with "cc" => (k_here; (with_reducible show wpAny _ _ (call (Value.ref 103) _) _ _ _); k_dflt (
   refine' Cl.use (root_c _ _ _ _ _ _ _ ?kp ?kz ?kn) ?k1 ?k2 ?k3 ?k4 ?k5 ?kK ?kd ?ku ?_;
   (case k1 => k_asm); (case k2 => k_asm); (case k3 => k_asm); (case k4 => k_asm); (case k5 => k_asm); (case kK => first | exact rfl | assumption);
   (case kp => first | with_reducible exact sq2_nn _ _ | with_reducible exact sqp_nn _ _ | omega); (case kz => bits_by_make); (case kn => decide); (case kd => k_extra "room"); (case ku => k_extra "units"); intro r9 t9 h9 tk9 hS9 F9 N9; (try k_extra "root"); (try dsimp only); (try k_fold))))
  (k_with "cc" => (k_here; (with_reducible show wpAny _ _ (call (Value.ref 250) _) _ _ _); k_dflt (
   refine' Cl.use (lfrac_e _ _ _ _ _ _ _ _ _ ?kp ?ky ?kz ?kn) ?k1 ?k2 ?k3 ?k4 ?k5 ?kK ?kd ?ku ?_;
   (case k1 => k_asm); (case k2 => k_asm); (case k3 => k_asm); (case k4 => k_asm); (case k5 => k_asm); (case kK => first | exact rfl | assumption);
   (case kp => first | with_reducible assumption | k_extra "pos" | omega); (case ky => bits_by_make); (case kz => bits_by_make); (case kn => decide); (case kd => k_extra "room"); (case ku => k_extra "units"); intro R9 hS9 D9 t9 u9 c9 h9 tk9 F9 N9 l1; (obtain ⟨hR9, hn9, hd9⟩ := hS9); (try k_extra "lfrac"); (try k_lt l1); (try dsimp only); (try k_fold))))
  (k_with "cc" => (k_here; (with_reducible show wpAny _ _ (call (Value.ref 257) _) _ _ _); k_dflt (
   refine' Cl.use (near_c _ _ _ _ _ _ _ _ _ ?kp) ?k1 ?k2 ?k3 ?k4 ?k5 ?kK ?kd ?ku ?_;
   (case k1 => k_asm); (case k2 => k_asm); (case k3 => k_asm); (case k4 => k_asm); (case k5 => k_asm); (case kK => first | exact rfl | assumption);
   (case kp => first | assumption | k_extra "near"); (case kd => k_extra "room"); (case ku => k_extra "units"); intro h9 tk9 F9 N9; (try dsimp only); (try k_fold))))
  (k_with "cc" => (k_here; (with_reducible show wpAny _ _ (call (Value.ref 211) _) _ _ _); k_dflt (
   refine' Cl.use (side_e _ _ _ _ _ ?m1 ?m2 ?hX ?hY ?y1 ?y2 ?y3 ?y4 ?y5 ?y6) ?k1 ?k2 ?k3 ?k4 ?k5 ?kK ?kd ?ku ?_;
   (case k1 => k_asm); (case k2 => k_asm); (case k3 => k_asm); (case k4 => k_asm); (case k5 => k_asm); (case kK => first | exact rfl | assumption);
   (case m1 => k_mem); (case m2 => k_mem); (case hX => assumption); (case hY => assumption); (case y1 => assumption); (case y2 => assumption); (case y3 => k_extra "b70"); (case y4 => k_extra "b70"); (case y5 => k_extra "b70"); (case y6 => k_extra "b70"); (case kd => k_extra "room"); (case ku => k_extra "units");
   intro r9 I9 d9 wy9 k91 k92 k93 k94 u91 u92 u93 c9 h9 tk9 hS9 F9 N9; (try k_extra "side"); (try dsimp only); (try k_fold))))
  (k_with "cc" => (k_here; (with_reducible show wpAny _ _ (call (Value.ref 208) _) _ _ _); k_dflt (
   refine' Cl.use (trn_c _ _ _ _ _ ?m1 ?m2 ?m3 ?kx ?y1 ?y2) ?k1 ?k2 ?k3 ?k4 ?k5 ?kK ?kd ?ku ?_;
   (case k1 => k_asm); (case k2 => k_asm); (case k3 => k_asm); (case k4 => k_asm); (case k5 => k_asm); (case kK => first | exact rfl | assumption);
   (case m1 => k_mem); (case m2 => k_mem); (case m3 => k_mem); (case kx => assumption); (case y1 => assumption); (case y2 => assumption); (case kd => k_extra "room"); (case ku => k_extra "units");
   intro r9 C9 S9 D9 D91 D92 u91 u92 u93 u94 c9 c91 c92 h9 tk9 hS9 F9 N9; (obtain ⟨hT9, x1, x2, x3, x4⟩ := hS9); (try k_extra "trn"); (try dsimp only); (try k_fold))))
  (k_with "cc" => (k_here; (with_reducible show wpAny _ _ (call (Value.ref 162) _) _ _ _); k_dflt (
   refine' Cl.use (minit_c _ _ _ _ _) ?k1 ?k2 ?k3 ?k4 ?k5 ?kK ?kd ?ku ?_;
   (case k1 => k_asm); (case k2 => k_asm); (case k3 => k_asm); (case k4 => k_asm); (case k5 => k_asm); (case kK => first | exact rfl | assumption);
   (case kd => k_extra "room"); (case ku => k_extra "units");
   intro M9 d9 k91 k92 k93 k94 k95 k96 h9 tk9 F9 N9; (try dsimp only); (try k_fold))))
  (k_with "cc" => (k_here; (with_reducible show wpAny _ _ (call (Value.ref 222) _) _ _ _); k_dflt (
   refine' Cl.use (tmat_c _ _ _ _ _ ?m1 ?m2 ?mH ?m3 ?m4 ?m5 ?m6 ?m7 ?m8 ?z1 ?z2 ?z3 ?z4 ?z5 ?z6 ?z7 ?z8 ?z9 ?z10 ?z11 ?z12) ?k1 ?k2 ?k3 ?k4 ?k5 ?kK ?kd ?ku ?_;
   (case k1 => k_asm); (case k2 => k_asm); (case k3 => k_asm); (case k4 => k_asm); (case k5 => k_asm); (case kK => first | exact rfl | assumption);
   (case m1 => k_mem); (case m2 => k_mem); (case m3 => k_mem); (case m4 => k_mem); (case m5 => k_mem); (case m6 => k_mem); (case m7 => k_mem); (case m8 => k_mem); (case mH => first | with_reducible exact ratIs_self _ | with_reducible exact ratIs_int _ | with_reducible assumption | fail "rat_is");
   (case z1 => refine Nat.le_trans (by assumption) (by decide)); (case z2 => refine Nat.le_trans (by assumption) (by decide)); (case z3 => refine Nat.le_trans (by assumption) (by decide)); (case z4 => refine Nat.le_trans (by assumption) (by decide)); (case z5 => refine Nat.le_trans (by assumption) (by decide)); (case z6 => refine Nat.le_trans (by assumption) (by decide)); (case z7 => refine Nat.le_trans (by assumption) (by decide)); (case z8 => refine Nat.le_trans (by assumption) (by decide)); (case z9 => refine Nat.le_trans (by assumption) (by decide)); (case z10 => refine Nat.le_trans (by assumption) (by decide)); (case z11 => refine Nat.le_trans (by assumption) (by decide)); (case z12 => refine Nat.le_trans (by assumption) (by decide));
   (case kd => k_extra "room"); (case ku => k_extra "units");
   intro A9 B9 C9 D9 E9 G9 M9 d9 a91 a92 a93 a94 a95 a96 k91 k92 k93 k94 k95 k96 t91 t92 t93 t94 t95 t96 u91 u92 u93 u94 u95 u96 c91 c92 c93 c94 c95 c96 h9 tk9 hS9 F9 N9;
   (obtain ⟨hM9, ⟨x1, x2⟩, ⟨x3, x4⟩, ⟨x5, x6⟩, ⟨x7, x8⟩, ⟨x9, x10⟩, ⟨x11, x12⟩⟩ := hS9); (try k_extra "tmat"); (try dsimp only); (try k_fold))))
  k_dflt cell_enter
  (k_with "ops" => (have hq9 := isSum hR9 (by assumption) (by assumption); clear hq9; replace N9 := drop_23 N9))
  (k_with "mem" => first | exact hM | exact hd | exact h1 | exact h2 | exact h3 | exact h4 | exact h5 | exact h6 | exact hp0 | exact hpx | exact hpy)
  repeat' (first | (k_unfold; (try dsimp only)) | ((with_reducible show wpAny _ _ (exec _ _) _ _ _); k_fold; walk1) | walk1 | (dsimp only; walk1) | fail "no step")
  all_goals (
    refine' hret _ _ _ _ _ _ _ _ _ _ _ _ _ _ ?hS (by assumption) (cb_drop (by assumption) ?hN)
    case hN =>
      refine List.forall_mem_cons.mpr ⟨by k_mem, List.forall_mem_cons.mpr ⟨by k_mem, List.forall_mem_cons.mpr ⟨by k_mem, ?_⟩⟩⟩
      intro p hp
      repeat (first | exact hp | apply List.mem_cons_of_mem)
    case hS => (refine ⟨?_, ?_⟩ <;> (subst_vars; rfl)))
theorem drop3_4 {h₀ : Heap} {L : Addr} {h : Heap} {a b c d1 d2 d3 d4 : Addr × Obj} {l : Led} (N : News h₀ L h (a :: b :: c :: d1 :: d2 :: d3 :: d4 :: l)) : News h₀ L h (a :: b :: c :: l) :=
  cb_drop N (List.forall_mem_cons.mpr ⟨.head _, List.forall_mem_cons.mpr ⟨.tail _ (.head _), List.forall_mem_cons.mpr ⟨.tail _ (.tail _ (.head _)), fun _ hp => .tail _ (.tail _ (.tail _ (.tail _ (.tail _ (.tail _ (.tail _ hp))))))⟩⟩⟩)
theorem drop8_3 {h₀ : Heap} {L : Addr} {h : Heap} {a1 a2 a3 a4 a5 a6 a7 a8 d1 d2 d3 : Addr × Obj} {l : Led} (N : News h₀ L h (a1 :: a2 :: a3 :: a4 :: a5 :: a6 :: a7 :: a8 :: d1 :: d2 :: d3 :: l)) : News h₀ L h (a1 :: a2 :: a3 :: a4 :: a5 :: a6 :: a7 :: a8 :: l) :=
  cb_drop N (List.forall_mem_cons.mpr ⟨.head _, List.forall_mem_cons.mpr ⟨.tail _ (.head _), List.forall_mem_cons.mpr ⟨.tail _ (.tail _ (.head _)), List.forall_mem_cons.mpr ⟨.tail _ (.tail _ (.tail _ (.head _))), List.forall_mem_cons.mpr ⟨.tail _ (.tail _ (.tail _ (.tail _ (.head _)))), List.forall_mem_cons.mpr ⟨.tail _ (.tail _ (.tail _ (.tail _ (.tail _ (.head _))))), List.forall_mem_cons.mpr ⟨.tail _ (.tail _ (.tail _ (.tail _ (.tail _ (.tail _ (.head _)))))), List.forall_mem_cons.mpr ⟨.tail _ (.tail _ (.tail _ (.tail _ (.tail _ (.tail _ (.tail _ (.head _))))))), fun _ hp => .tail _ (.tail _ (.tail _ (.tail _ (.tail _ (.tail _ (.tail _ (.tail _ (.tail _ (.tail _ (.tail _ (hp)))))))))))⟩⟩⟩⟩⟩⟩⟩⟩)
set_option maxHeartbeats 16000000 in
theorem mat_c (w : World) (mean : ExcName → Option Value) (mg mb : Str → Option Value) (news : Led) {v s0 h0 p0 px py : Addr} {x y hp hq pn pd qn qd sn sd : Int} {S H P0 P1 : Rat} {x1 x2 x3 x4 x5 x6 x9 x10 x11 x12 : Tok} {y1 y2 y3 y6 y7 y8 : Nat}
    (hv : (v, ({ cls := .type "tuple", data := .seq #[.int x x5, .int y x6] y3 } : Obj)) ∈ news)
    (hs : (s0, ({ cls := .type "tuple", data := .seq #[.int sn x1, .int sd x2] y1 } : Obj)) ∈ news)
    (hh : (h0, ({ cls := .type "tuple", data := .seq #[.int hp x3, .int hq x4] y2 } : Obj)) ∈ news)
    (hp0 : (p0, ({ cls := .type "tuple", data := .seq #[.ref px, .ref py] y6 } : Obj)) ∈ news)
    (hpx : (px, ({ cls := .type "tuple", data := .seq #[.int pn x9, .int pd x10] y7 } : Obj)) ∈ news)
    (hpy : (py, ({ cls := .type "tuple", data := .seq #[.int qn x11, .int qd x12] y8 } : Obj)) ∈ news)
    (hS : RatIs sn sd S) (hH : RatIs hp hq H) (hP0 : RatIs pn pd P0) (hP1 : RatIs qn qd P1)
    (hxy : ¬ (x = 0 ∧ y = 0)) (hsn : sn ≠ 0) (w1 : intBits x ≤ 64) (w2 : intBits y ≤ 64)
    (z1 : intBits sn ≤ 64) (z2 : intBits sd ≤ 64) (z3 : intBits hp ≤ 64) (z4 : intBits hq ≤ 64) (z9 : intBits pn ≤ 64) (z10 : intBits pd ≤ 64) (z11 : intBits qn ≤ 64) (z12 : intBits qd ≤ 64) :
    Cl w mean mg mb 271 [.ref v, .ref s0, .ref h0, .ref p0] news 40 (RBool true news) := by
  unfold Cl RBool
  k_fill
  intro dp un gd cn cs a ccd cl outer A₀ base h₀ L m s Q E BB F X NN T hk hdp hun hret
  obtain ⟨rfl, rfl⟩ := hS
  obtain ⟨rfl, rfl⟩ := hP0
  obtain ⟨rfl, rfl⟩ := hP1
  have ex : x - 0 = x := by omega
  have ey : y - 0 = y := by omega
  have hs1 : 0 < x * x + y * y := sq2_pos hxy
  refine wpAny_call ?_
  k_with_none
  (k_with "bbm" => (first
  | with_reducible assumption
  | ((with_reducible apply bits_mnum) <;> bits_by_make)
  | ((with_reducible apply bits_mden) <;> bits_by_make)
  | ((with_reducible apply bits_anum) <;> bits_by_make)
  | ((with_reducible apply bits_aden) <;> bits_by_make)
  | ((with_reducible apply bits_snum) <;> bits_by_make)
  | ((with_reducible apply bits_sden) <;> bits_by_make)
  | ((with_reducible apply bits_nnum) <;> bits_by_make)
  | ((with_reducible apply bits_nden) <;> bits_by_make)
  | fail "bits"))
  (k_with "enter" => ((refine' code_def ?k1 ?k2 ?k3 ?k4 ?k5 ?kA ?kF ?kK ?k6 ?k7 ?k8 ?k9 ?kB ?_ ?c2 ?c3 ?c4 ?c5; (case kA => exact rfl); (case kF => exact rfl); (case kK => assumption); (case k1 => k_asm); (case k2 => k_asm); (case k3 => k_asm); (case k4 => k_asm); (case k5 => k_asm); (case k6 => k_is); (case k7 => k_is); (case k8 => k_extra "room"); (case k9 => first | exact BindsTo.of_eq rfl | exact binds_K (by k_in) rfl (by k_is) rfl rfl rfl); (case c5 => decide); (case kB => exact locs rfl); (case c2 => exact rfl); (case c3 => exact rfl); (case c4 => exact rfl); k_whole; intro g' L' h' FG' F' N' B' X' T'; (try dsimp only); (try k_lift B'); (try k_fold))))
  (k_with "room" => first
    | ((try simp only [depth_under_make, depth_under_kw, depth_in1, depth_deeper, depth_caller]); decide)
    | ((try simp only [depth_under_make, depth_under_kw, depth_in1, depth_deeper, depth_caller]); (try dsimp only [ktrTop]); refine Nat.lt_of_le_of_lt ?_ hdp; (try simp only [Nat.add_assoc]); exact Nat.add_le_add_left (by decide) _)
    | ktr_room)
  (k_with "units" => first
    | ((simp only [units_under_make, units_in1, units_deeper, Around.mark_units, units_caller]); (try dsimp only [ktrTop]); refine Nat.lt_of_le_of_lt ?_ hun; (try simp only [Nat.add_assoc]); exact Nat.add_le_add_left (by decide) _)
    | ((simp only [units_under_make, units_in1, units_deeper, Around.mark_units, units_caller]); rw [cLine_is]; decide)
    | ktr_units)
  (k_with "fdiv" => (k_dflt (refine' fdiv_k ?fa ?fb ?fc ?_; (case fa => omega); (case fb => bits_by_make); (case fc => decide); k_whole)))
  (k_with "subT" => (k_here; (with_reducible show wpAny _ _ (subscriptTail _ _ (Value.ref _) (Value.int _ _)) _ _ _); k_dflt (refine' item_tupleT ?t ?a ?b ?c ?d ?_; (case t => exact News.isTup (by k_asm) (by k_mem)); (case a => decide); (case b => decide); (case c => rfl); (case d => rfl); k_whole)))
  (k_with "cc" => (k_here; (with_reducible show wpAny _ _ (call (Value.ref 60) _) _ _ _); k_dflt (
   refine' Cl.use (gcd_c _ _ _ _ _ _ _ _ _ ?kp) ?k1 ?k2 ?k3 ?k4 ?k5 ?kK ?kd ?ku ?_;
   (case k1 => k_asm); (case k2 => k_asm); (case k3 => k_asm); (case k4 => k_asm); (case k5 => k_asm); (case kK => first | exact rfl | assumption);
   (case kp => first | assumption | omega); (case kd => k_extra "room"); (case ku => k_extra "units"); intro t9 h9 tk9 F9 N9; (try dsimp only); (try k_fold))))
  (k_with "cc" => (k_here; (with_reducible show wpAny _ _ (call (Value.ref 68) _) _ _ _); k_dflt (
   refine' Cl.use (frac_c _ _ _ _ _ _ _ _ _ ?kp ?kz ?kn) ?k1 ?k2 ?k3 ?k4 ?k5 ?kK ?kd ?ku ?_;
   (case k1 => k_asm); (case k2 => k_asm); (case k3 => k_asm); (case k4 => k_asm); (case k5 => k_asm); (case kK => first | exact rfl | assumption);
   (case kp => first | assumption | omega); (case kz => bits_by_make); (case kn => decide); (case kd => k_extra "room"); (case ku => k_extra "units"); intro D9 t9 u9 c9 h9 tk9 F9 N9 l1; (try k_lt l1); (try dsimp only); (try k_fold))))
  (k_with "cc" => (k_here; (with_reducible show wpAny _ _ (call (Value.ref 89) _) _ _ _); k_dflt (
   refine' Cl.use (times_c _ _ _ _ _ ?kx ?ky ?kP ?kQ ?kz1 ?kz2 ?kz3 ?kz4 ?kn) ?k1 ?k2 ?k3 ?k4 ?k5 ?kK ?kd ?ku ?_;
   (case k1 => k_asm); (case k2 => k_asm); (case k3 => k_asm); (case k4 => k_asm); (case k5 => k_asm); (case kK => first | exact rfl | assumption);
   (case kx => k_mem); (case ky => k_mem); (case kP => first | with_reducible exact ratIs_self _ | with_reducible exact ratIs_int _ | with_reducible assumption | fail "rat_is"); (case kQ => first | with_reducible exact ratIs_self _ | with_reducible exact ratIs_int _ | with_reducible assumption | fail "rat_is"); (case kz1 => bits_by_make); (case kz2 => bits_by_make); (case kz3 => bits_by_make); (case kz4 => bits_by_make);
   (case kn => decide); (case kd => k_extra "room"); (case ku => k_extra "units"); intro D9 t9 u9 c9 h9 tk9 F9 N9 l1; (try k_lt l1); (try dsimp only); (try k_fold))))
  (k_with "cc" => (k_here; (with_reducible show wpAny _ _ (call (Value.ref 75) _) _ _ _); k_dflt (
   refine' Cl.use (plus_c _ _ _ _ _ ?kx ?ky ?kP ?kQ ?kz1 ?kz2 ?kz3 ?kz4 ?kn) ?k1 ?k2 ?k3 ?k4 ?k5 ?kK ?kd ?ku ?_;
   (case k1 => k_asm); (case k2 => k_asm); (case k3 => k_asm); (case k4 => k_asm); (case k5 => k_asm); (case kK => first | exact rfl | assumption);
   (case kx => k_mem); (case ky => k_mem); (case kP => first | with_reducible exact ratIs_self _ | with_reducible exact ratIs_int _ | with_reducible assumption | fail "rat_is"); (case kQ => first | with_reducible exact ratIs_self _ | with_reducible exact ratIs_int _ | with_reducible assumption | fail "rat_is"); (case kz1 => bits_by_make); (case kz2 => bits_by_make); (case kz3 => bits_by_make); (case kz4 => bits_by_make);
   (case kn => decide); (case kd => k_extra "room"); (case ku => k_extra "units"); intro D9 t9 u9 c9 h9 tk9 F9 N9 l1; (try k_lt l1); (try dsimp only); (try k_fold))))
  (k_with "cc" => (k_here; (with_reducible show wpAny _ _ (call (Value.ref 82) _) _ _ _); k_dflt (
   refine' Cl.use (minus_c _ _ _ _ _ ?kx ?ky ?kP ?kQ ?kz1 ?kz2 ?kz3 ?kz4 ?kn) ?k1 ?k2 ?k3 ?k4 ?k5 ?kK ?kd ?ku ?_;
   (case k1 => k_asm); (case k2 => k_asm); (case k3 => k_asm); (case k4 => k_asm); (case k5 => k_asm); (case kK => first | exact rfl | assumption);
   (case kx => k_mem); (case ky => k_mem); (case kP => first | with_reducible exact ratIs_self _ | with_reducible exact ratIs_int _ | with_reducible assumption | fail "rat_is"); (case kQ => first | with_reducible exact ratIs_self _ | with_reducible exact ratIs_int _ | with_reducible assumption | fail "rat_is"); (case kz1 => bits_by_make); (case kz2 => bits_by_make); (case kz3 => bits_by_make); (case kz4 => bits_by_make);
   (case kn => decide); (case kd => k_extra "room"); (case ku => k_extra "units"); intro D9 t9 u9 c9 h9 tk9 F9 N9 l1; (try k_lt l1); (try dsimp only); (try k_fold))))
  (k_with "cc" => (k_here; (with_reducible show wpAny _ _ (call (Value.ref 96) _) _ _ _); k_dflt (
   refine' Cl.use (neg_c _ _ _ _ _ ?kx ?kP) ?k1 ?k2 ?k3 ?k4 ?k5 ?kK ?kd ?ku ?_;
   (case k1 => k_asm); (case k2 => k_asm); (case k3 => k_asm); (case k4 => k_asm); (case k5 => k_asm); (case kK => first | exact rfl | assumption);
   (case kx => k_mem); (case kP => first | with_reducible exact ratIs_self _ | with_reducible exact ratIs_int _ | with_reducible assumption | fail "rat_is");
   (case kd => k_extra "room"); (case ku => k_extra "units"); intro D9 t9 u9 c9 h9 tk9 F9 N9 l1; (try k_lt l1); (try dsimp only); (try k_fold))))
  (k_with "cc" => (k_here; (with_reducible show wpAny _ _ (call (Value.ref 68) _) _ _ _); k_dflt (
   refine' Cl.use (frac_e _ _ _ _ _ _ _ _ _ ?kp ?ky ?kz ?kn) ?k1 ?k2 ?k3 ?k4 ?k5 ?kK ?kd ?ku ?_;
   (case k1 => k_asm); (case k2 => k_asm); (case k3 => k_asm); (case k4 => k_asm); (case k5 => k_asm); (case kK => first | exact rfl | assumption);
   (case kp => first | with_reducible assumption | omega); (case ky => bits_by_make); (case kz => bits_by_make); (case kn => decide); (case kd => k_extra "room"); (case ku => k_extra "units"); intro R9 hS9 D9 t9 u9 c9 h9 tk9 F9 N9 l1; (obtain ⟨hR9, hn9, hd9⟩ := hS9); (try k_extra "frac"); (try k_lt l1); (try dsimp only); (try k_fold))))
  (k_with "cc" => (k_here; (with_reducible show wpAny _ _ (call (Value.ref 89) _) _ _ _); k_dflt (
   refine' Cl.use (times_e _ _ _ _ _ ?kx ?ky ?kP ?kQ ?kz1 ?kz2 ?kz3 ?kz4 ?kn) ?k1 ?k2 ?k3 ?k4 ?k5 ?kK ?kd ?ku ?_;
   (case k1 => k_asm); (case k2 => k_asm); (case k3 => k_asm); (case k4 => k_asm); (case k5 => k_asm); (case kK => first | exact rfl | assumption);
   (case kx => k_mem); (case ky => k_mem); (case kP => first | with_reducible exact ratIs_self _ | with_reducible exact ratIs_int _ | with_reducible assumption | fail "rat_is"); (case kQ => first | with_reducible exact ratIs_self _ | with_reducible exact ratIs_int _ | with_reducible assumption | fail "rat_is"); (case kz1 => bits_by_make); (case kz2 => bits_by_make); (case kz3 => bits_by_make); (case kz4 => bits_by_make);
   (case kn => decide); (case kd => k_extra "room"); (case ku => k_extra "units"); intro R9 hS9 D9 t9 u9 c9 h9 tk9 F9 N9 l1; (obtain ⟨hR9, hn9, hd9⟩ := hS9); (try k_extra "ops"); (try k_lt l1); (try dsimp only); (try k_fold))))
  (k_with "cc" => (k_here; (with_reducible show wpAny _ _ (call (Value.ref 75) _) _ _ _); k_dflt (
   refine' Cl.use (plus_e _ _ _ _ _ ?kx ?ky ?kP ?kQ ?kz1 ?kz2 ?kz3 ?kz4 ?kn) ?k1 ?k2 ?k3 ?k4 ?k5 ?kK ?kd ?ku ?_;
   (case k1 => k_asm); (case k2 => k_asm); (case k3 => k_asm); (case k4 => k_asm); (case k5 => k_asm); (case kK => first | exact rfl | assumption);
   (case kx => k_mem); (case ky => k_mem); (case kP => first | with_reducible exact ratIs_self _ | with_reducible exact ratIs_int _ | with_reducible assumption | fail "rat_is"); (case kQ => first | with_reducible exact ratIs_self _ | with_reducible exact ratIs_int _ | with_reducible assumption | fail "rat_is"); (case kz1 => bits_by_make); (case kz2 => bits_by_make); (case kz3 => bits_by_make); (case kz4 => bits_by_make);
   (case kn => decide); (case kd => k_extra "room"); (case ku => k_extra "units"); intro R9 hS9 D9 t9 u9 c9 h9 tk9 F9 N9 l1; (obtain ⟨hR9, hn9, hd9⟩ := hS9); (try k_extra "ops"); (try k_lt l1); (try dsimp only); (try k_fold))))
  (k_with "cc" => (k_here; (with_reducible show wpAny _ _ (call (Value.ref 82) _) _ _ _); k_dflt (
   refine' Cl.use (minus_e _ _ _ _ _ ?kx ?ky ?kP ?kQ ?kz1 ?kz2 ?kz3 ?kz4 ?kn) ?k1 ?k2 ?k3 ?k4 ?k5 ?kK ?kd ?ku ?_;
   (case k1 => k_asm); (case k2 => k_asm); (case k3 => k_asm); (case k4 => k_asm); (case k5 => k_asm); (case kK => first | exact rfl | assumption);
   (case kx => k_mem); (case ky => k_mem); (case kP => first | with_reducible exact ratIs_self _ | with_reducible exact ratIs_int _ | with_reducible assumption | fail "rat_is"); (case kQ => first | with_reducible exact ratIs_self _ | with_reducible exact ratIs_int _ | with_reducible assumption | fail "rat_is"); (case kz1 => bits_by_make); (case kz2 => bits_by_make); (case kz3 => bits_by_make); (case kz4 => bits_by_make);
   (case kn => decide); (case kd => k_extra "room"); (case ku => k_extra "units"); intro R9 hS9 D9 t9 u9 c9 h9 tk9 F9 N9 l1; (obtain ⟨hR9, hn9, hd9⟩ := hS9); (try k_extra "ops"); (try k_lt l1); (try dsimp only); (try k_fold))))
  (k_with "cc" => (k_here; (with_reducible show wpAny _ _ (call (Value.ref 96) _) _ _ _); k_dflt (
   refine' Cl.use (neg_e _ _ _ _ _ ?kx ?kP ?kz1 ?kz2) ?k1 ?k2 ?k3 ?k4 ?k5 ?kK ?kd ?ku ?_;
   (case k1 => k_asm); (case k2 => k_asm); (case k3 => k_asm); (case k4 => k_asm); (case k5 => k_asm); (case kK => first | exact rfl | assumption);
   (case kx => k_mem); (case kP => first | with_reducible exact ratIs_self _ | with_reducible exact ratIs_int _ | with_reducible assumption | fail "rat_is"); (case kz1 => bits_by_make); (case kz2 => bits_by_make);
   (case kd => k_extra "room"); (case ku => k_extra "units"); intro R9 hS9 D9 t9 u9 c9 h9 tk9 F9 N9 l1; (obtain ⟨hR9, hn9, hd9⟩ := hS9); (try k_extra "ops"); (try k_lt l1); (try dsimp only); (try k_fold))))
  (k_with "bbm" => (k_extra "bits"))
  (k_with "fdiv" => (k_dflt (refine' fdiv_k ?fa ?fb ?fc ?_; (case fa => exact fr_ne (by assumption) (by assumption) (by assumption) (by assumption) (by assumption)); (case fb => exact fr_bits (by assumption) (by assumption) (by assumption) (by assumption) (by assumption) (by assumption)); (case fc => decide); k_whole)))
  (k_with "cc" => (k_here; (with_reducible show wpAny _ _ (call (Value.ref 103) _) _ _ _); k_dflt (
   refine' Cl.use (root_c _ _ _ _ _ _ _ ?kp ?kz ?kn) ?k1 ?k2 ?k3 ?k4 ?k5 ?kK ?kd ?ku ?_;
   (case k1 => k_asm); (case k2 => k_asm); (case k3 => k_asm); (case k4 => k_asm); (case k5 => k_asm); (case kK => first | exact rfl | assumption);
   (case kp => first | with_reducible exact sq2_nn _ _ | with_reducible exact sqp_nn _ _ | omega); (case kz => bits_by_make); (case kn => decide); (case kd => k_extra "room"); (case ku => k_extra "units"); intro r9 t9 h9 tk9 hS9 F9 N9; (try k_extra "root"); (try dsimp only); (try k_fold))))
  (k_with "cc" => (k_here; (with_reducible show wpAny _ _ (call (Value.ref 250) _) _ _ _); k_dflt (
   refine' Cl.use (lfrac_e _ _ _ _ _ _ _ _ _ ?kp ?ky ?kz ?kn) ?k1 ?k2 ?k3 ?k4 ?k5 ?kK ?kd ?ku ?_;
   (case k1 => k_asm); (case k2 => k_asm); (case k3 => k_asm); (case k4 => k_asm); (case k5 => k_asm); (case kK => first | exact rfl | assumption);
   (case kp => first | with_reducible assumption | k_extra "pos" | omega); (case ky => bits_by_make); (case kz => bits_by_make); (case kn => decide); (case kd => k_extra "room"); (case ku => k_extra "units"); intro R9 hS9 D9 t9 u9 c9 h9 tk9 F9 N9 l1; (obtain ⟨hR9, hn9, hd9⟩ := hS9); (try k_extra "lfrac"); (try k_lt l1); (try dsimp only); (try k_fold))))
  (k_with "cc" => (k_here; (with_reducible show wpAny _ _ (call (Value.ref 257) _) _ _ _); k_dflt (
   refine' Cl.use (near_c _ _ _ _ _ _ _ _ _ ?kp) ?k1 ?k2 ?k3 ?k4 ?k5 ?kK ?kd ?ku ?_;
   (case k1 => k_asm); (case k2 => k_asm); (case k3 => k_asm); (case k4 => k_asm); (case k5 => k_asm); (case kK => first | exact rfl | assumption);
   (case kp => first | assumption | k_extra "near"); (case kd => k_extra "room"); (case ku => k_extra "units"); intro h9 tk9 F9 N9; (try dsimp only); (try k_fold))))
  (k_with "cc" => (k_here; (with_reducible show wpAny _ _ (call (Value.ref 211) _) _ _ _); k_dflt (
   refine' Cl.use (side_e _ _ _ _ _ ?m1 ?m2 ?hX ?hY ?y1 ?y2 ?y3 ?y4 ?y5 ?y6) ?k1 ?k2 ?k3 ?k4 ?k5 ?kK ?kd ?ku ?_;
   (case k1 => k_asm); (case k2 => k_asm); (case k3 => k_asm); (case k4 => k_asm); (case k5 => k_asm); (case kK => first | exact rfl | assumption);
   (case m1 => k_mem); (case m2 => k_mem); (case hX => assumption); (case hY => assumption); (case y1 => assumption); (case y2 => assumption); (case y3 => k_extra "b70"); (case y4 => k_extra "b70"); (case y5 => k_extra "b70"); (case y6 => k_extra "b70"); (case kd => k_extra "room"); (case ku => k_extra "units");
   intro r9 I9 d9 wy9 k91 k92 k93 k94 u91 u92 u93 c9 h9 tk9 hS9 F9 N9; (try k_extra "side"); (try dsimp only); (try k_fold))))
  (k_with "cc" => (k_here; (with_reducible show wpAny _ _ (call (Value.ref 208) _) _ _ _); k_dflt (
   refine' Cl.use (trn_c _ _ _ _ _ ?m1 ?m2 ?m3 ?kx ?y1 ?y2) ?k1 ?k2 ?k3 ?k4 ?k5 ?kK ?kd ?ku ?_;
   (case k1 => k_asm); (case k2 => k_asm); (case k3 => k_asm); (case k4 => k_asm); (case k5 => k_asm); (case kK => first | exact rfl | assumption);
   (case m1 => k_mem); (case m2 => k_mem); (case m3 => k_mem); (case kx => assumption); (case y1 => assumption); (case y2 => assumption); (case kd => k_extra "room"); (case ku => k_extra "units");
   intro r9 C9 S9 D9 D91 D92 u91 u92 u93 u94 c9 c91 c92 h9 tk9 hS9 F9 N9; (obtain ⟨hT9, x1, x2, x3, x4⟩ := hS9); (try k_extra "trn"); (try dsimp only); (try k_fold))))
  (k_with "cc" => (k_here; (with_reducible show wpAny _ _ (call (Value.ref 162) _) _ _ _); k_dflt (
   refine' Cl.use (minit_c _ _ _ _ _) ?k1 ?k2 ?k3 ?k4 ?k5 ?kK ?kd ?ku ?_;
   (case k1 => k_asm); (case k2 => k_asm); (case k3 => k_asm); (case k4 => k_asm); (case k5 => k_asm); (case kK => first | exact rfl | assumption);
   (case kd => k_extra "room"); (case ku => k_extra "units");
   intro M9 d9 k91 k92 k93 k94 k95 k96 h9 tk9 F9 N9; (try dsimp only); (try k_fold))))
  (k_with "cc" => (k_here; (with_reducible show wpAny _ _ (call (Value.ref 222) _) _ _ _); k_dflt (
   refine' Cl.use (tmat_c _ _ _ _ _ ?m1 ?m2 ?mH ?m3 ?m4 ?m5 ?m6 ?m7 ?m8 ?z1 ?z2 ?z3 ?z4 ?z5 ?z6 ?z7 ?z8 ?z9 ?z10 ?z11 ?z12) ?k1 ?k2 ?k3 ?k4 ?k5 ?kK ?kd ?ku ?_;
   (case k1 => k_asm); (case k2 => k_asm); (case k3 => k_asm); (case k4 => k_asm); (case k5 => k_asm); (case kK => first | exact rfl | assumption);
   (case m1 => k_mem); (case m2 => k_mem); (case m3 => k_mem); (case m4 => k_mem); (case m5 => k_mem); (case m6 => k_mem); (case m7 => k_mem); (case m8 => k_mem); (case mH => first | with_reducible exact ratIs_self _ | with_reducible exact ratIs_int _ | with_reducible assumption | fail "rat_is");
   (case z1 => refine Nat.le_trans (by assumption) (by decide)); (case z2 => refine Nat.le_trans (by assumption) (by decide)); (case z3 => refine Nat.le_trans (by assumption) (by decide)); (case z4 => refine Nat.le_trans (by assumption) (by decide)); (case z5 => refine Nat.le_trans (by assumption) (by decide)); (case z6 => refine Nat.le_trans (by assumption) (by decide)); (case z7 => refine Nat.le_trans (by assumption) (by decide)); (case z8 => refine Nat.le_trans (by assumption) (by decide)); (case z9 => refine Nat.le_trans (by assumption) (by decide)); (case z10 => refine Nat.le_trans (by assumption) (by decide)); (case z11 => refine Nat.le_trans (by assumption) (by decide)); (case z12 => refine Nat.le_trans (by assumption) (by decide));
   (case kd => k_extra "room"); (case ku => k_extra "units");
   intro A9 B9 C9 D9 E9 G9 M9 d9 a91 a92 a93 a94 a95 a96 k91 k92 k93 k94 k95 k96 t91 t92 t93 t94 t95 t96 u91 u92 u93 u94 u95 u96 c91 c92 c93 c94 c95 c96 h9 tk9 hS9 F9 N9;
   (obtain ⟨hM9, ⟨x1, x2⟩, ⟨x3, x4⟩, ⟨x5, x6⟩, ⟨x7, x8⟩, ⟨x9, x10⟩, ⟨x11, x12⟩⟩ := hS9); (try k_extra "tmat"); (try dsimp only); (try k_fold))))
  (k_with "cc" => (k_here; (with_reducible show wpAny _ _ (call (Value.ref 152) _) _ _ _); k_dflt (
   refine' Cl.use (det_c _ _ _ _ _ ?mM ?md ?m1 ?m2 ?m3 ?m4 ?z1 ?w1 ?z2 ?w2 ?z3 ?w3 ?z4 ?w4) ?k1 ?k2 ?k3 ?k4 ?k5 ?kK ?kd ?ku ?_;
   (case k1 => k_asm); (case k2 => k_asm); (case k3 => k_asm); (case k4 => k_asm); (case k5 => k_asm); (case kK => first | exact rfl | assumption);
   (case mM => k_mem); (case md => k_mem); (case m1 => k_mem); (case m2 => k_mem); (case m3 => k_mem); (case m4 => k_mem);
   (case z1 => assumption); (case w1 => assumption); (case z2 => assumption); (case w2 => assumption); (case z3 => assumption); (case w3 => assumption); (case z4 => assumption); (case w4 => assumption); (case kd => k_extra "room"); (case ku => k_extra "units");
   intro R9 D9 t9 u9 c9 h9 tk9 hDet F9 N9; (try k_extra "det"); (try dsimp only); (try k_fold))))
  (k_with "cc" => (k_here; (with_reducible show wpAny _ _ (call (Value.ref 138) _) _ _ _); k_dflt (
   refine' Cl.use (pt_c _ _ _ _ _ ?mM ?md ?m1 ?m2 ?m3 ?m4 ?m5 ?m6 ?n0 ?nx ?ny ?hH ?hG ?z1 ?w1 ?z2 ?w2 ?z3 ?w3 ?z4 ?w4 ?z5 ?w5 ?z6 ?w6 ?v1 ?v2 ?v3 ?v4) ?k1 ?k2 ?k3 ?k4 ?k5 ?kK ?kd ?ku ?_;
   (case k1 => k_asm); (case k2 => k_asm); (case k3 => k_asm); (case k4 => k_asm); (case k5 => k_asm); (case kK => first | exact rfl | assumption);
   (case mM => k_mem); (case md => k_mem); (case m1 => k_mem); (case m2 => k_mem); (case m3 => k_mem); (case m4 => k_mem); (case m5 => k_mem); (case m6 => k_mem); (case n0 => k_mem); (case nx => k_mem); (case ny => k_mem);
   (case hH => first | with_reducible exact ratIs_self _ | with_reducible exact ratIs_int _ | with_reducible assumption | fail "rat_is"); (case hG => first | with_reducible exact ratIs_self _ | with_reducible exact ratIs_int _ | with_reducible assumption | fail "rat_is");
   (case z1 => assumption); (case w1 => assumption); (case z2 => assumption); (case w2 => assumption); (case z3 => assumption); (case w3 => assumption); (case z4 => assumption); (case w4 => assumption); (case z5 => assumption); (case w5 => assumption); (case z6 => assumption); (case w6 => assumption);
   (case v1 => first | decide | exact Nat.le_trans (by assumption) (by decide)); (case v2 => first | decide | exact Nat.le_trans (by assumption) (by decide)); (case v3 => first | decide | exact Nat.le_trans (by assumption) (by decide)); (case v4 => first | decide | exact Nat.le_trans (by assumption) (by decide)); (case kd => k_extra "room"); (case ku => k_extra "units");
   intro X9 Y9 D9 D91 D92 u91 u92 u93 u94 c9 c91 c92 h9 tk9 hP9 F9 N9; (try k_extra "pt"); (try dsimp only); (try k_fold))))
  k_dflt cell_enter
  (k_with "mem" => first | exact hv | exact hs | exact hh | exact hp0 | exact hpx | exact hpy)
  (k_with "b70" => first | decide | exact Nat.le_trans (by assumption) (by decide))
  (k_with "trn" => (obtain ⟨hR9, hC9, hN9⟩ := hT9; have hF9 := turn_facts rfl rfl hs1 hC9 hN9 hR9; obtain ⟨⟨hE1, hE2, hE3⟩, hE4⟩ := hF9; replace N9 := drop3_4 N9))
  (k_with "tmat" => replace N9 := drop8_3 N9)
  (k_with "pt" => (obtain ⟨hP1, hP2⟩ := hP9; have hq1 := pt_x hM9 hP1 rfl rfl rfl; have hq2 := pt_y hM9 hP2 rfl rfl rfl; subst hq1; subst hq2))
  (k_with "det" => replace N9 := keep1 (k := news) N9 (fun p hp => by repeat (first | exact hp | apply List.mem_cons_of_mem)))
  (k_with "near" => exact mat_near hsn (det_is hM9 hDet rfl rfl) hE4)
  repeat' (first | (k_unfold; (try dsimp only)) | ((with_reducible show wpAny _ _ (exec _ _) _ _ _); k_fold; walk1) | walk1 | (dsimp only; walk1) | fail "no step")
  all_goals first
    | exact ret_bool hret rfl (by assumption) (by assumption) (fun p hp => by repeat (first | exact hp | apply List.mem_cons_of_mem))
    | skip
abbrev RTake (S : Addr) (n : Nat) (top : Int) (rest : Led) : Heap → Addr → (Str → Option Value) → Shared → (Value → Shared → Prop) → Prop :=
  fun h₀ L m s Q => ∀ (r p q : Int) (t t1 t2 : Tok) (h' : Heap) (tk' : Nat), (0 ≤ r ∧ r < top) → (0 ≤ p ∧ 0 ≤ q ∧ q < 2147483647) → Fr h₀ L h' m →
    News h₀ L h' ((S, listOf #[.int p t1, .int q t2] n) :: rest) → Q (.int r t) { s with heap := h', toks := tk' }
theorem take_a {p top : Int} (h : 0 < top) : 0 ≤ p.fmod top ∧ p.fmod top < top := ⟨Int.fmod_nonneg_of_pos _ h, Int.fmod_lt_of_pos _ h⟩
theorem take_b {p q top : Int} (hp : 0 ≤ p) (h : 0 < top) (hq : 0 ≤ q) (hq2 : q < 2147483647) : 0 ≤ p.fdiv top ∧ 0 ≤ q ∧ q < 2147483647 := ⟨Int.fdiv_nonneg hp (by omega), hq, hq2⟩
theorem take_d {p x : Int} (hp : 0 ≤ p) : 0 ≤ p ∧ 0 ≤ x.fmod 2147483647 ∧ x.fmod 2147483647 < 2147483647 := ⟨hp, Int.fmod_nonneg_of_pos _ (by decide), Int.fmod_lt_of_pos _ (by decide)⟩
theorem bits31 {q : Int} (hq : 0 ≤ q) (hq2 : q < 2147483647) : intBits q ≤ 64 := intBits_le_64 (by omega) (by omega)
local macro_rules | `(tactic| k_all) => `(tactic| assumption)
local macro_rules | `(tactic| walk_at "subscriptTail Name Constant ref int") => `(tactic| k_extra "subC")
set_option maxHeartbeats 8000000 in
theorem take_c (w : World) (mean : ExcName → Option Value) (mg mb : Str → Option Value) (rest : Led) {S : Addr} {p q top : Int} {t1 t2 tt : Tok} {n : Nat}
    (hne : ∀ x ∈ rest, x.1 ≠ S) (hp : 0 ≤ p) (hq : 0 ≤ q) (hq2 : q < 2147483647) (ht : 0 < top) (hz : intBits top ≤ 64) :
    Cl w mean mg mb 236 [.ref S, .int top tt] ((S, listOf #[.int p t1, .int q t2] n) :: rest) 2 (RTake S n top rest) := by
  unfold Cl RTake
  k_fill
  intro dp un gd cn cs a ccd cl outer A₀ base h₀ L m s Q E BB F X NN T hk hdp hun hret
  have hqb := bits31 hq hq2
  refine wpAny_call ?_
  k_with_none
  (k_with "bbm" => (first
  | with_reducible assumption
  | ((with_reducible apply bits_mnum) <;> bits_by_make)
  | ((with_reducible apply bits_mden) <;> bits_by_make)
  | ((with_reducible apply bits_anum) <;> bits_by_make)
  | ((with_reducible apply bits_aden) <;> bits_by_make)
  | ((with_reducible apply bits_snum) <;> bits_by_make)
  | ((with_reducible apply bits_sden) <;> bits_by_make)
  | ((with_reducible apply bits_nnum) <;> bits_by_make)
  | ((with_reducible apply bits_nden) <;> bits_by_make)
  | fail "bits"))
  (k_with "enter" => ((refine' code_def ?k1 ?k2 ?k3 ?k4 ?k5 ?kA ?kF ?kK ?k6 ?k7 ?k8 ?k9 ?kB ?_ ?c2 ?c3 ?c4 ?c5; (case kA => exact rfl); (case kF => exact rfl); (case kK => assumption); (case k1 => k_asm); (case k2 => k_asm); (case k3 => k_asm); (case k4 => k_asm); (case k5 => k_asm); (case k6 => k_is); (case k7 => k_is); (case k8 => k_extra "room"); (case k9 => first | exact BindsTo.of_eq rfl | exact binds_K (by k_in) rfl (by k_is) rfl rfl rfl); (case c5 => decide); (case kB => exact locs rfl); (case c2 => exact rfl); (case c3 => exact rfl); (case c4 => exact rfl); k_whole; intro g' L' h' FG' F' N' B' X' T'; (try dsimp only); (try k_lift B'); (try k_fold))))
  (k_with "room" => first
    | ((try simp only [depth_under_make, depth_under_kw, depth_in1, depth_deeper, depth_caller]); decide)
    | ((try simp only [depth_under_make, depth_under_kw, depth_in1, depth_deeper, depth_caller]); (try dsimp only [ktrTop]); refine Nat.lt_of_le_of_lt ?_ hdp; (try simp only [Nat.add_assoc]); exact Nat.add_le_add_left (by decide) _)
    | ktr_room)
  (k_with "units" => first
    | ((simp only [units_under_make, units_in1, units_deeper, Around.mark_units, units_caller]); (try dsimp only [ktrTop]); refine Nat.lt_of_le_of_lt ?_ hun; (try simp only [Nat.add_assoc]); exact Nat.add_le_add_left (by decide) _)
    | ((simp only [units_under_make, units_in1, units_deeper, Around.mark_units, units_caller]); rw [cLine_is]; decide)
    | ktr_units)
  (k_with "fdiv" => (k_dflt (refine' fdiv_k ?fa ?fb ?fc ?_; (case fa => omega); (case fb => bits_by_make); (case fc => decide); k_whole)))
  (k_with "subT" => (k_here; (with_reducible show wpAny _ _ (subscriptTail _ _ (Value.ref _) (Value.int _ _)) _ _ _); k_dflt (refine' item_tupleT ?t ?a ?b ?c ?d ?_; (case t => exact News.isTup (by k_asm) (by k_mem)); (case a => decide); (case b => decide); (case c => rfl); (case d => rfl); k_whole)))
  (k_with "cc" => (k_here; (with_reducible show wpAny _ _ (call (Value.ref 60) _) _ _ _); k_dflt (
   refine' Cl.use (gcd_c _ _ _ _ _ _ _ _ _ ?kp) ?k1 ?k2 ?k3 ?k4 ?k5 ?kK ?kd ?ku ?_;
   (case k1 => k_asm); (case k2 => k_asm); (case k3 => k_asm); (case k4 => k_asm); (case k5 => k_asm); (case kK => first | exact rfl | assumption);
   (case kp => first | assumption | omega); (case kd => k_extra "room"); (case ku => k_extra "units"); intro t9 h9 tk9 F9 N9; (try dsimp only); (try k_fold))))
  (k_with "cc" => (k_here; (with_reducible show wpAny _ _ (call (Value.ref 68) _) _ _ _); k_dflt (
   refine' Cl.use (frac_c _ _ _ _ _ _ _ _ _ ?kp ?kz ?kn) ?k1 ?k2 ?k3 ?k4 ?k5 ?kK ?kd ?ku ?_;
   (case k1 => k_asm); (case k2 => k_asm); (case k3 => k_asm); (case k4 => k_asm); (case k5 => k_asm); (case kK => first | exact rfl | assumption);
   (case kp => first | assumption | omega); (case kz => bits_by_make); (case kn => decide); (case kd => k_extra "room"); (case ku => k_extra "units"); intro D9 t9 u9 c9 h9 tk9 F9 N9 l1; (try k_lt l1); (try dsimp only); (try k_fold))))
  (k_with "cc" => (k_here; (with_reducible show wpAny _ _ (call (Value.ref 89) _) _ _ _); k_dflt (
   refine' Cl.use (times_c _ _ _ _ _ ?kx ?ky ?kP ?kQ ?kz1 ?kz2 ?kz3 ?kz4 ?kn) ?k1 ?k2 ?k3 ?k4 ?k5 ?kK ?kd ?ku ?_;
   (case k1 => k_asm); (case k2 => k_asm); (case k3 => k_asm); (case k4 => k_asm); (case k5 => k_asm); (case kK => first | exact rfl | assumption);
   (case kx => k_mem); (case ky => k_mem); (case kP => first | with_reducible exact ratIs_self _ | with_reducible exact ratIs_int _ | with_reducible assumption | fail "rat_is"); (case kQ => first | with_reducible exact ratIs_self _ | with_reducible exact ratIs_int _ | with_reducible assumption | fail "rat_is"); (case kz1 => bits_by_make); (case kz2 => bits_by_make); (case kz3 => bits_by_make); (case kz4 => bits_by_make);
   (case kn => decide); (case kd => k_extra "room"); (case ku => k_extra "units"); intro D9 t9 u9 c9 h9 tk9 F9 N9 l1; (try k_lt l1); (try dsimp only); (try k_fold))))
  (k_with "cc" => (k_here; (with_reducible show wpAny _ _ (call (Value.ref 75) _) _ _ _); k_dflt (
   refine' Cl.use (plus_c _ _ _ _ _ ?kx ?ky ?kP ?kQ ?kz1 ?kz2 ?kz3 ?kz4 ?kn) ?k1 ?k2 ?k3 ?k4 ?k5 ?kK ?kd ?ku ?_;
   (case k1 => k_asm); (case k2 => k_asm); (case k3 => k_asm); (case k4 => k_asm); (case k5 => k_asm); (case kK => first | exact rfl | assumption);
   (case kx => k_mem); (case ky => k_mem); (case kP => first | with_reducible exact ratIs_self _ | with_reducible exact ratIs_int _ | with_reducible assumption | fail "rat_is"); (case kQ => first | with_reducible exact ratIs_self _ | with_reducible exact ratIs_int _ | with_reducible assumption | fail "rat_is"); (case kz1 => bits_by_make); (case kz2 => bits_by_make); (case kz3 => bits_by_make); (case kz4 => bits_by_make);
   (case kn => decide); (case kd => k_extra "room"); (case ku => k_extra "units"); intro D9 t9 u9 c9 h9 tk9 F9 N9 l1; (try k_lt l1); (try dsimp only); (try k_fold))))
  (k_with "cc" => (k_here; (with_reducible show wpAny _ _ (call (Value.ref 82) _) _ _ _); k_dflt (
   refine' Cl.use (minus_c _ _ _ _ _ ?kx ?ky ?kP ?kQ ?kz1 ?kz2 ?kz3 ?kz4 ?kn) ?k1 ?k2 ?k3 ?k4 ?k5 ?kK ?kd ?ku ?_;
   (case k1 => k_asm); (case k2 => k_asm); (case k3 => k_asm); (case k4 => k_asm); (case k5 => k_asm); (case kK => first | exact rfl | assumption);
   (case kx => k_mem); (case ky => k_mem); (case kP => first | with_reducible exact ratIs_self _ | with_reducible exact ratIs_int _ | with_reducible assumption | fail "rat_is"); (case kQ => first | with_reducible exact ratIs_self _ | with_reducible exact ratIs_int _ | with_reducible assumption | fail "rat_is"); (case kz1 => bits_by_make); (case kz2 => bits_by_make); (case kz3 => bits_by_make); (case kz4 => bits_by_make);
   (case kn => decide); (case kd => k_extra "room"); (case ku => k_extra "units"); intro D9 t9 u9 c9 h9 tk9 F9 N9 l1; (try k_lt l1); (try dsimp only); (try k_fold))))
  (k_with "cc" => (k_here; (with_reducible show wpAny _ _ (call (Value.ref 96) _) _ _ _); k_dflt (
   refine' Cl.use (neg_c _ _ _ _ _ ?kx ?kP) ?k1 ?k2 ?k3 ?k4 ?k5 ?kK ?kd ?ku ?_;
   (case k1 => k_asm); (case k2 => k_asm); (case k3 => k_asm); (case k4 => k_asm); (case k5 => k_asm); (case kK => first | exact rfl | assumption);
   (case kx => k_mem); (case kP => first | with_reducible exact ratIs_self _ | with_reducible exact ratIs_int _ | with_reducible assumption | fail "rat_is");
   (case kd => k_extra "room"); (case ku => k_extra "units"); intro D9 t9 u9 c9 h9 tk9 F9 N9 l1; (try k_lt l1); (try dsimp only); (try k_fold))))
  (k_with "cc" => (k_here; (with_reducible show wpAny _ _ (call (Value.ref 68) _) _ _ _); k_dflt (
   refine' Cl.use (frac_e _ _ _ _ _ _ _ _ _ ?kp ?ky ?kz ?kn) ?k1 ?k2 ?k3 ?k4 ?k5 ?kK ?kd ?ku ?_;
   (case k1 => k_asm); (case k2 => k_asm); (case k3 => k_asm); (case k4 => k_asm); (case k5 => k_asm); (case kK => first | exact rfl | assumption);
   (case kp => first | with_reducible assumption | omega); (case ky => bits_by_make); (case kz => bits_by_make); (case kn => decide); (case kd => k_extra "room"); (case ku => k_extra "units"); intro R9 hS9 D9 t9 u9 c9 h9 tk9 F9 N9 l1; (obtain ⟨hR9, hn9, hd9⟩ := hS9); (try k_extra "frac"); (try k_lt l1); (try dsimp only); (try k_fold))))
  (k_with "cc" => (k_here; (with_reducible show wpAny _ _ (call (Value.ref 89) _) _ _ _); k_dflt (
   refine' Cl.use (times_e _ _ _ _ _ ?kx ?ky ?kP ?kQ ?kz1 ?kz2 ?kz3 ?kz4 ?kn) ?k1 ?k2 ?k3 ?k4 ?k5 ?kK ?kd ?ku ?_;
   (case k1 => k_asm); (case k2 => k_asm); (case k3 => k_asm); (case k4 => k_asm); (case k5 => k_asm); (case kK => first | exact rfl | assumption);
   (case kx => k_mem); (case ky => k_mem); (case kP => first | with_reducible exact ratIs_self _ | with_reducible exact ratIs_int _ | with_reducible assumption | fail "rat_is"); (case kQ => first | with_reducible exact ratIs_self _ | with_reducible exact ratIs_int _ | with_reducible assumption | fail "rat_is"); (case kz1 => bits_by_make); (case kz2 => bits_by_make); (case kz3 => bits_by_make); (case kz4 => bits_by_make);
   (case kn => decide); (case kd => k_extra "room"); (case ku => k_extra "units"); intro R9 hS9 D9 t9 u9 c9 h9 tk9 F9 N9 l1; (obtain ⟨hR9, hn9, hd9⟩ := hS9); (try k_extra "ops"); (try k_lt l1); (try dsimp only); (try k_fold))))
  (k_with "cc" => (k_here; (with_reducible show wpAny _ _ (call (Value.ref 75) _) _ _ _); k_dflt (
   refine' Cl.use (plus_e _ _ _ _ _ ?kx ?ky ?kP ?kQ ?kz1 ?kz2 ?kz3 ?kz4 ?kn) ?k1 ?k2 ?k3 ?k4 ?k5 ?kK ?kd ?ku ?_;
   (case k1 => k_asm); (case k2 => k_asm); (case k3 => k_asm); (case k4 => k_asm); (case k5 => k_asm); (case kK => first | exact rfl | assumption);
   (case kx => k_mem); (case ky => k_mem); (case kP => first | with_reducible exact ratIs_self _ | with_reducible exact ratIs_int _ | with_reducible assumption | fail "rat_is"); (case kQ => first | with_reducible exact ratIs_self _ | with_reducible exact ratIs_int _ | with_reducible assumption | fail "rat_is"); (case kz1 => bits_by_make); (case kz2 => bits_by_make); (case kz3 => bits_by_make); (case kz4 => bits_by_make);
   (case kn => decide); (case kd => k_extra "room"); (case ku => k_extra "units"); intro R9 hS9 D9 t9 u9 c9 h9 tk9 F9 N9 l1; (obtain ⟨hR9, hn9, hd9⟩ := hS9); (try k_extra "ops"); (try k_lt l1); (try dsimp only); (try k_fold))))
  (k_with "cc" => (k_here; (with_reducible show wpAny _ _ (call (Value.ref 82) _) _ _ _); k_dflt (
   refine' Cl.use (minus_e _ _ _ _ _ ?kx ?ky ?kP ?kQ ?kz1 ?kz2 ?kz3 ?kz4 ?kn) ?k1 ?k2 ?k3 ?k4 ?k5 ?kK ?kd ?ku ?_;
   (case k1 => k_asm); (case k2 => k_asm); (case k3 => k_asm); (case k4 => k_asm); (case k5 => k_asm); (case kK => first | exact rfl | assumption);
   (case kx => k_mem); (case ky => k_mem); (case kP => first | with_reducible exact ratIs_self _ | with_reducible exact ratIs_int _ | with_reducible assumption | fail "rat_is"); (case kQ => first | with_reducible exact ratIs_self _ | with_reducible exact ratIs_int _ | with_reducible assumption | fail "rat_is"); (case kz1 => bits_by_make); (case kz2 => bits_by_make); (case kz3 => bits_by_make); (case kz4 => bits_by_make);
   (case kn => decide); (case kd => k_extra "room"); (case ku => k_extra "units"); intro R9 hS9 D9 t9 u9 c9 h9 tk9 F9 N9 l1; (obtain ⟨hR9, hn9, hd9⟩ := hS9); (try k_extra "ops"); (try k_lt l1); (try dsimp only); (try k_fold))))
  (k_with "cc" => (k_here; (with_reducible show wpAny _ _ (call (Value.ref 96) _) _ _ _); k_dflt (
   refine' Cl.use (neg_e _ _ _ _ _ ?kx ?kP ?kz1 ?kz2) ?k1 ?k2 ?k3 ?k4 ?k5 ?kK ?kd ?ku ?_;
   (case k1 => k_asm); (case k2 => k_asm); (case k3 => k_asm); (case k4 => k_asm); (case k5 => k_asm); (case kK => first | exact rfl | assumption);
   (case kx => k_mem); (case kP => first | with_reducible exact ratIs_self _ | with_reducible exact ratIs_int _ | with_reducible assumption | fail "rat_is"); (case kz1 => bits_by_make); (case kz2 => bits_by_make);
   (case kd => k_extra "room"); (case ku => k_extra "units"); intro R9 hS9 D9 t9 u9 c9 h9 tk9 F9 N9 l1; (obtain ⟨hR9, hn9, hd9⟩ := hS9); (try k_extra "ops"); (try k_lt l1); (try dsimp only); (try k_fold))))
  (k_with "bbm" => (k_extra "bits"))
  (k_with "fdiv" => (k_dflt (refine' fdiv_k ?fa ?fb ?fc ?_; (case fa => exact fr_ne (by assumption) (by assumption) (by assumption) (by assumption) (by assumption)); (case fb => exact fr_bits (by assumption) (by assumption) (by assumption) (by assumption) (by assumption) (by assumption)); (case fc => decide); k_whole)))
  (k_with "cc" => (k_here; (with_reducible show wpAny _ _ (call (Value.ref 103) _) _ _ _); k_dflt (
   refine' Cl.use (root_c _ _ _ _ _ _ _ ?kp ?kz ?kn) ?k1 ?k2 ?k3 ?k4 ?k5 ?kK ?kd ?ku ?_;
   (case k1 => k_asm); (case k2 => k_asm); (case k3 => k_asm); (case k4 => k_asm); (case k5 => k_asm); (case kK => first | exact rfl | assumption);
   (case kp => first | with_reducible exact sq2_nn _ _ | with_reducible exact sqp_nn _ _ | omega); (case kz => bits_by_make); (case kn => decide); (case kd => k_extra "room"); (case ku => k_extra "units"); intro r9 t9 h9 tk9 hS9 F9 N9; (try k_extra "root"); (try dsimp only); (try k_fold))))
  (k_with "cc" => (k_here; (with_reducible show wpAny _ _ (call (Value.ref 250) _) _ _ _); k_dflt (
   refine' Cl.use (lfrac_e _ _ _ _ _ _ _ _ _ ?kp ?ky ?kz ?kn) ?k1 ?k2 ?k3 ?k4 ?k5 ?kK ?kd ?ku ?_;
   (case k1 => k_asm); (case k2 => k_asm); (case k3 => k_asm); (case k4 => k_asm); (case k5 => k_asm); (case kK => first | exact rfl | assumption);
   (case kp => first | with_reducible assumption | k_extra "pos" | omega); (case ky => bits_by_make); (case kz => bits_by_make); (case kn => decide); (case kd => k_extra "room"); (case ku => k_extra "units"); intro R9 hS9 D9 t9 u9 c9 h9 tk9 F9 N9 l1; (obtain ⟨hR9, hn9, hd9⟩ := hS9); (try k_extra "lfrac"); (try k_lt l1); (try dsimp only); (try k_fold))))
  (k_with "cc" => (k_here; (with_reducible show wpAny _ _ (call (Value.ref 257) _) _ _ _); k_dflt (
   refine' Cl.use (near_c _ _ _ _ _ _ _ _ _ ?kp) ?k1 ?k2 ?k3 ?k4 ?k5 ?kK ?kd ?ku ?_;
   (case k1 => k_asm); (case k2 => k_asm); (case k3 => k_asm); (case k4 => k_asm); (case k5 => k_asm); (case kK => first | exact rfl | assumption);
   (case kp => first | assumption | k_extra "near"); (case kd => k_extra "room"); (case ku => k_extra "units"); intro h9 tk9 F9 N9; (try dsimp only); (try k_fold))))
  (k_with "cc" => (k_here; (with_reducible show wpAny _ _ (call (Value.ref 211) _) _ _ _); k_dflt (
   refine' Cl.use (side_e _ _ _ _ _ ?m1 ?m2 ?hX ?hY ?y1 ?y2 ?y3 ?y4 ?y5 ?y6) ?k1 ?k2 ?k3 ?k4 ?k5 ?kK ?kd ?ku ?_;
   (case k1 => k_asm); (case k2 => k_asm); (case k3 => k_asm); (case k4 => k_asm); (case k5 => k_asm); (case kK => first | exact rfl | assumption);
   (case m1 => k_mem); (case m2 => k_mem); (case hX => assumption); (case hY => assumption); (case y1 => assumption); (case y2 => assumption); (case y3 => k_extra "b70"); (case y4 => k_extra "b70"); (case y5 => k_extra "b70"); (case y6 => k_extra "b70"); (case kd => k_extra "room"); (case ku => k_extra "units");
   intro r9 I9 d9 wy9 k91 k92 k93 k94 u91 u92 u93 c9 h9 tk9 hS9 F9 N9; (try k_extra "side"); (try dsimp only); (try k_fold))))
  (k_with "cc" => (k_here; (with_reducible show wpAny _ _ (call (Value.ref 208) _) _ _ _); k_dflt (
   refine' Cl.use (trn_c _ _ _ _ _ ?m1 ?m2 ?m3 ?kx ?y1 ?y2) ?k1 ?k2 ?k3 ?k4 ?k5 ?kK ?kd ?ku ?_;
   (case k1 => k_asm); (case k2 => k_asm); (case k3 => k_asm); (case k4 => k_asm); (case k5 => k_asm); (case kK => first | exact rfl | assumption);
   (case m1 => k_mem); (case m2 => k_mem); (case m3 => k_mem); (case kx => assumption); (case y1 => assumption); (case y2 => assumption); (case kd => k_extra "room"); (case ku => k_extra "units");
   intro r9 C9 S9 D9 D91 D92 u91 u92 u93 u94 c9 c91 c92 h9 tk9 hS9 F9 N9; (obtain ⟨hT9, x1, x2, x3, x4⟩ := hS9); (try k_extra "trn"); (try dsimp only); (try k_fold))))
  (k_with "cc" => (k_here; (with_reducible show wpAny _ _ (call (Value.ref 162) _) _ _ _); k_dflt (
   refine' Cl.use (minit_c _ _ _ _ _) ?k1 ?k2 ?k3 ?k4 ?k5 ?kK ?kd ?ku ?_;
   (case k1 => k_asm); (case k2 => k_asm); (case k3 => k_asm); (case k4 => k_asm); (case k5 => k_asm); (case kK => first | exact rfl | assumption);
   (case kd => k_extra "room"); (case ku => k_extra "units");
   intro M9 d9 k91 k92 k93 k94 k95 k96 h9 tk9 F9 N9; (try dsimp only); (try k_fold))))
  (k_with "cc" => (k_here; (with_reducible show wpAny _ _ (call (Value.ref 222) _) _ _ _); k_dflt (
   refine' Cl.use (tmat_c _ _ _ _ _ ?m1 ?m2 ?mH ?m3 ?m4 ?m5 ?m6 ?m7 ?m8 ?z1 ?z2 ?z3 ?z4 ?z5 ?z6 ?z7 ?z8 ?z9 ?z10 ?z11 ?z12) ?k1 ?k2 ?k3 ?k4 ?k5 ?kK ?kd ?ku ?_;
   (case k1 => k_asm); (case k2 => k_asm); (case k3 => k_asm); (case k4 => k_asm); (case k5 => k_asm); (case kK => first | exact rfl | assumption);
   (case m1 => k_mem); (case m2 => k_mem); (case m3 => k_mem); (case m4 => k_mem); (case m5 => k_mem); (case m6 => k_mem); (case m7 => k_mem); (case m8 => k_mem); (case mH => first | with_reducible exact ratIs_self _ | with_reducible exact ratIs_int _ | with_reducible assumption | fail "rat_is");
   (case z1 => refine Nat.le_trans (by assumption) (by decide)); (case z2 => refine Nat.le_trans (by assumption) (by decide)); (case z3 => refine Nat.le_trans (by assumption) (by decide)); (case z4 => refine Nat.le_trans (by assumption) (by decide)); (case z5 => refine Nat.le_trans (by assumption) (by decide)); (case z6 => refine Nat.le_trans (by assumption) (by decide)); (case z7 => refine Nat.le_trans (by assumption) (by decide)); (case z8 => refine Nat.le_trans (by assumption) (by decide)); (case z9 => refine Nat.le_trans (by assumption) (by decide)); (case z10 => refine Nat.le_trans (by assumption) (by decide)); (case z11 => refine Nat.le_trans (by assumption) (by decide)); (case z12 => refine Nat.le_trans (by assumption) (by decide));
   (case kd => k_extra "room"); (case ku => k_extra "units");
   intro A9 B9 C9 D9 E9 G9 M9 d9 a91 a92 a93 a94 a95 a96 k91 k92 k93 k94 k95 k96 t91 t92 t93 t94 t95 t96 u91 u92 u93 u94 u95 u96 c91 c92 c93 c94 c95 c96 h9 tk9 hS9 F9 N9;
   (obtain ⟨hM9, ⟨x1, x2⟩, ⟨x3, x4⟩, ⟨x5, x6⟩, ⟨x7, x8⟩, ⟨x9, x10⟩, ⟨x11, x12⟩⟩ := hS9); (try k_extra "tmat"); (try dsimp only); (try k_fold))))
  (k_with "cc" => (k_here; (with_reducible show wpAny _ _ (call (Value.ref 152) _) _ _ _); k_dflt (
   refine' Cl.use (det_c _ _ _ _ _ ?mM ?md ?m1 ?m2 ?m3 ?m4 ?z1 ?w1 ?z2 ?w2 ?z3 ?w3 ?z4 ?w4) ?k1 ?k2 ?k3 ?k4 ?k5 ?kK ?kd ?ku ?_;
   (case k1 => k_asm); (case k2 => k_asm); (case k3 => k_asm); (case k4 => k_asm); (case k5 => k_asm); (case kK => first | exact rfl | assumption);
   (case mM => k_mem); (case md => k_mem); (case m1 => k_mem); (case m2 => k_mem); (case m3 => k_mem); (case m4 => k_mem);
   (case z1 => assumption); (case w1 => assumption); (case z2 => assumption); (case w2 => assumption); (case z3 => assumption); (case w3 => assumption); (case z4 => assumption); (case w4 => assumption); (case kd => k_extra "room"); (case ku => k_extra "units");
   intro R9 D9 t9 u9 c9 h9 tk9 hDet F9 N9; (try k_extra "det"); (try dsimp only); (try k_fold))))
  (k_with "cc" => (k_here; (with_reducible show wpAny _ _ (call (Value.ref 138) _) _ _ _); k_dflt (
   refine' Cl.use (pt_c _ _ _ _ _ ?mM ?md ?m1 ?m2 ?m3 ?m4 ?m5 ?m6 ?n0 ?nx ?ny ?hH ?hG ?z1 ?w1 ?z2 ?w2 ?z3 ?w3 ?z4 ?w4 ?z5 ?w5 ?z6 ?w6 ?v1 ?v2 ?v3 ?v4) ?k1 ?k2 ?k3 ?k4 ?k5 ?kK ?kd ?ku ?_;
   (case k1 => k_asm); (case k2 => k_asm); (case k3 => k_asm); (case k4 => k_asm); (case k5 => k_asm); (case kK => first | exact rfl | assumption);
   (case mM => k_mem); (case md => k_mem); (case m1 => k_mem); (case m2 => k_mem); (case m3 => k_mem); (case m4 => k_mem); (case m5 => k_mem); (case m6 => k_mem); (case n0 => k_mem); (case nx => k_mem); (case ny => k_mem);
   (case hH => first | with_reducible exact ratIs_self _ | with_reducible exact ratIs_int _ | with_reducible assumption | fail "rat_is"); (case hG => first | with_reducible exact ratIs_self _ | with_reducible exact ratIs_int _ | with_reducible assumption | fail "rat_is");
   (case z1 => assumption); (case w1 => assumption); (case z2 => assumption); (case w2 => assumption); (case z3 => assumption); (case w3 => assumption); (case z4 => assumption); (case w4 => assumption); (case z5 => assumption); (case w5 => assumption); (case z6 => assumption); (case w6 => assumption);
   (case v1 => first | decide | exact Nat.le_trans (by assumption) (by decide)); (case v2 => first | decide | exact Nat.le_trans (by assumption) (by decide)); (case v3 => first | decide | exact Nat.le_trans (by assumption) (by decide)); (case v4 => first | decide | exact Nat.le_trans (by assumption) (by decide)); (case kd => k_extra "room"); (case ku => k_extra "units");
   intro X9 Y9 D9 D91 D92 u91 u92 u93 u94 c9 c91 c92 h9 tk9 hP9 F9 N9; (try k_extra "pt"); (try dsimp only); (try k_fold))))
  (k_with "subC" => (k_here; (with_reducible show wpAny _ _ (subscriptTail _ _ (Value.ref _) (Value.int _ _)) _ _ _); k_dflt (refine' item_litK ?k1 ?k2 ?k3 ?k4 ?_ ?k6; (case k1 => exact News.isList (by k_asm) (by k_mem)); (case k2 => decide); (case k3 => decide); (case k4 => rfl); (case k6 => with_unfolding_all rfl); k_whole)))
  k_dflt cell_enter
  repeat' (first | (k_unfold; (try dsimp only)) | ((with_reducible show wpAny _ _ (exec _ _) _ _ _); k_fold; walk1) | walk1 | (dsimp only; walk1) | fail "no step")
  all_goals first
    | exact hret _ _ _ _ _ _ _ _ (take_a ht) (take_b hp ht hq hq2) (by assumption) (by assumption)
    | exact hret _ _ _ _ _ _ _ _ (take_a ht) (take_d hp) (by assumption) (by assumption)
    | skip
abbrev RPool (l : Addr) (vs : List Value) (news : Led) : Heap → Addr → (Str → Option Value) → Shared → (Value → Shared → Prop) → Prop :=
  fun h₀ L m s Q => h₀.IsList l vs.toArray ∧ ∀ (p q : Int) (t1 t2 : Tok) (D : Addr) (c : Nat) (h' : Heap) (tk' : Nat), (0 ≤ p ∧ 0 ≤ q ∧ q < 2147483647) → Fr h₀ L h' m →
    News h₀ L h' ((D, listOf #[.int p t1, .int q t2] c) :: news) → (∀ x ∈ news, x.1 < D) → Q (.ref D) { s with heap := h', toks := tk' }
set_option maxHeartbeats 8000000 in
theorem pool_c (w : World) (mean : ExcName → Option Value) (mg mb : Str → Option Value) (news : Led) {l : Addr} {vs : List Value} {ns : List Int} {k : Int} {tk : Tok}
    (hI : IntsAre vs ns) (hlen : ns.length < 2 ^ 62) (hk0 : 0 ≤ k) (hk1 : k < 64) :
    Cl w mean mg mb 229 [.ref l, .int k tk] news 3 (RPool l vs news) := by
  unfold Cl RPool
  k_fill
  intro dp un gd cn cs a ccd cl outer A₀ base h₀ L m s Q E BB F X NN T hk hdp hun hret
  obtain ⟨hL, hret⟩ := hret
  refine wpAny_call ?_
  k_dflt cell_enter
  have hL2 := stays_list (Fr.keep (by assumption : Fr h₀ L _ m)) hL
  k_with_none
  (k_with "bbm" => (first
  | with_reducible assumption
  | ((with_reducible apply bits_mnum) <;> bits_by_make)
  | ((with_reducible apply bits_mden) <;> bits_by_make)
  | ((with_reducible apply bits_anum) <;> bits_by_make)
  | ((with_reducible apply bits_aden) <;> bits_by_make)
  | ((with_reducible apply bits_snum) <;> bits_by_make)
  | ((with_reducible apply bits_sden) <;> bits_by_make)
  | ((with_reducible apply bits_nnum) <;> bits_by_make)
  | ((with_reducible apply bits_nden) <;> bits_by_make)
  | fail "bits"))
  (k_with "enter" => ((refine' code_def ?k1 ?k2 ?k3 ?k4 ?k5 ?kA ?kF ?kK ?k6 ?k7 ?k8 ?k9 ?kB ?_ ?c2 ?c3 ?c4 ?c5; (case kA => exact rfl); (case kF => exact rfl); (case kK => assumption); (case k1 => k_asm); (case k2 => k_asm); (case k3 => k_asm); (case k4 => k_asm); (case k5 => k_asm); (case k6 => k_is); (case k7 => k_is); (case k8 => k_extra "room"); (case k9 => first | exact BindsTo.of_eq rfl | exact binds_K (by k_in) rfl (by k_is) rfl rfl rfl); (case c5 => decide); (case kB => exact locs rfl); (case c2 => exact rfl); (case c3 => exact rfl); (case c4 => exact rfl); k_whole; intro g' L' h' FG' F' N' B' X' T'; (try dsimp only); (try k_lift B'); (try k_fold))))
  (k_with "room" => first
    | ((try simp only [depth_under_make, depth_under_kw, depth_in1, depth_deeper, depth_caller]); decide)
    | ((try simp only [depth_under_make, depth_under_kw, depth_in1, depth_deeper, depth_caller]); (try dsimp only [ktrTop]); refine Nat.lt_of_le_of_lt ?_ hdp; (try simp only [Nat.add_assoc]); exact Nat.add_le_add_left (by decide) _)
    | ktr_room)
  (k_with "units" => first
    | ((simp only [units_under_make, units_in1, units_deeper, Around.mark_units, units_caller]); (try dsimp only [ktrTop]); refine Nat.lt_of_le_of_lt ?_ hun; (try simp only [Nat.add_assoc]); exact Nat.add_le_add_left (by decide) _)
    | ((simp only [units_under_make, units_in1, units_deeper, Around.mark_units, units_caller]); rw [cLine_is]; decide)
    | ktr_units)
  (k_with "fdiv" => (k_dflt (refine' fdiv_k ?fa ?fb ?fc ?_; (case fa => omega); (case fb => bits_by_make); (case fc => decide); k_whole)))
  (k_with "subT" => (k_here; (with_reducible show wpAny _ _ (subscriptTail _ _ (Value.ref _) (Value.int _ _)) _ _ _); k_dflt (refine' item_tupleT ?t ?a ?b ?c ?d ?_; (case t => exact News.isTup (by k_asm) (by k_mem)); (case a => decide); (case b => decide); (case c => rfl); (case d => rfl); k_whole)))
  (k_with "cc" => (k_here; (with_reducible show wpAny _ _ (call (Value.ref 60) _) _ _ _); k_dflt (
   refine' Cl.use (gcd_c _ _ _ _ _ _ _ _ _ ?kp) ?k1 ?k2 ?k3 ?k4 ?k5 ?kK ?kd ?ku ?_;
   (case k1 => k_asm); (case k2 => k_asm); (case k3 => k_asm); (case k4 => k_asm); (case k5 => k_asm); (case kK => first | exact rfl | assumption);
   (case kp => first | assumption | omega); (case kd => k_extra "room"); (case ku => k_extra "units"); intro t9 h9 tk9 F9 N9; (try dsimp only); (try k_fold))))
  (k_with "cc" => (k_here; (with_reducible show wpAny _ _ (call (Value.ref 68) _) _ _ _); k_dflt (
   refine' Cl.use (frac_c _ _ _ _ _ _ _ _ _ ?kp ?kz ?kn) ?k1 ?k2 ?k3 ?k4 ?k5 ?kK ?kd ?ku ?_;
   (case k1 => k_asm); (case k2 => k_asm); (case k3 => k_asm); (case k4 => k_asm); (case k5 => k_asm); (case kK => first | exact rfl | assumption);
   (case kp => first | assumption | omega); (case kz => bits_by_make); (case kn => decide); (case kd => k_extra "room"); (case ku => k_extra "units"); intro D9 t9 u9 c9 h9 tk9 F9 N9 l1; (try k_lt l1); (try dsimp only); (try k_fold))))
  (k_with "cc" => (k_here; (with_reducible show wpAny _ _ (call (Value.ref 89) _) _ _ _); k_dflt (
   refine' Cl.use (times_c _ _ _ _ _ ?kx ?ky ?kP ?kQ ?kz1 ?kz2 ?kz3 ?kz4 ?kn) ?k1 ?k2 ?k3 ?k4 ?k5 ?kK ?kd ?ku ?_;
   (case k1 => k_asm); (case k2 => k_asm); (case k3 => k_asm); (case k4 => k_asm); (case k5 => k_asm); (case kK => first | exact rfl | assumption);
   (case kx => k_mem); (case ky => k_mem); (case kP => first | with_reducible exact ratIs_self _ | with_reducible exact ratIs_int _ | with_reducible assumption | fail "rat_is"); (case kQ => first | with_reducible exact ratIs_self _ | with_reducible exact ratIs_int _ | with_reducible assumption | fail "rat_is"); (case kz1 => bits_by_make); (case kz2 => bits_by_make); (case kz3 => bits_by_make); (case kz4 => bits_by_make);
   (case kn => decide); (case kd => k_extra "room"); (case ku => k_extra "units"); intro D9 t9 u9 c9 h9 tk9 F9 N9 l1; (try k_lt l1); (try dsimp only); (try k_fold))))
  (k_with "cc" => (k_here; (with_reducible show wpAny _ _ (call (Value.ref 75) _) _ _ _); k_dflt (
   refine' Cl.use (plus_c _ _ _ _ _ ?kx ?ky ?kP ?kQ ?kz1 ?kz2 ?kz3 ?kz4 ?kn) ?k1 ?k2 ?k3 ?k4 ?k5 ?kK ?kd ?ku ?_;
   (case k1 => k_asm); (case k2 => k_asm); (case k3 => k_asm); (case k4 => k_asm); (case k5 => k_asm); (case kK => first | exact rfl | assumption);
   (case kx => k_mem); (case ky => k_mem); (case kP => first | with_reducible exact ratIs_self _ | with_reducible exact ratIs_int _ | with_reducible assumption | fail "rat_is"); (case kQ => first | with_reducible exact ratIs_self _ | with_reducible exact ratIs_int _ | with_reducible assumption | fail "rat_is"); (case kz1 => bits_by_make); (case kz2 => bits_by_make); (case kz3 => bits_by_make); (case kz4 => bits_by_make);
   (case kn => decide); (case kd => k_extra "room"); (case ku => k_extra "units"); intro D9 t9 u9 c9 h9 tk9 F9 N9 l1; (try k_lt l1); (try dsimp only); (try k_fold))))
  (k_with "cc" => (k_here; (with_reducible show wpAny _ _ (call (Value.ref 82) _) _ _ _); k_dflt (
   refine' Cl.use (minus_c _ _ _ _ _ ?kx ?ky ?kP ?kQ ?kz1 ?kz2 ?kz3 ?kz4 ?kn) ?k1 ?k2 ?k3 ?k4 ?k5 ?kK ?kd ?ku ?_;
   (case k1 => k_asm); (case k2 => k_asm); (case k3 => k_asm); (case k4 => k_asm); (case k5 => k_asm); (case kK => first | exact rfl | assumption);
   (case kx => k_mem); (case ky => k_mem); (case kP => first | with_reducible exact ratIs_self _ | with_reducible exact ratIs_int _ | with_reducible assumption | fail "rat_is"); (case kQ => first | with_reducible exact ratIs_self _ | with_reducible exact ratIs_int _ | with_reducible assumption | fail "rat_is"); (case kz1 => bits_by_make); (case kz2 => bits_by_make); (case kz3 => bits_by_make); (case kz4 => bits_by_make);
   (case kn => decide); (case kd => k_extra "room"); (case ku => k_extra "units"); intro D9 t9 u9 c9 h9 tk9 F9 N9 l1; (try k_lt l1); (try dsimp only); (try k_fold))))
  (k_with "cc" => (k_here; (with_reducible show wpAny _ _ (call (Value.ref 96) _) _ _ _); k_dflt (
   refine' Cl.use (neg_c _ _ _ _ _ ?kx ?kP) ?k1 ?k2 ?k3 ?k4 ?k5 ?kK ?kd ?ku ?_;
   (case k1 => k_asm); (case k2 => k_asm); (case k3 => k_asm); (case k4 => k_asm); (case k5 => k_asm); (case kK => first | exact rfl | assumption);
   (case kx => k_mem); (case kP => first | with_reducible exact ratIs_self _ | with_reducible exact ratIs_int _ | with_reducible assumption | fail "rat_is");
   (case kd => k_extra "room"); (case ku => k_extra "units"); intro D9 t9 u9 c9 h9 tk9 F9 N9 l1; (try k_lt l1); (try dsimp only); (try k_fold))))
  (k_with "cc" => (k_here; (with_reducible show wpAny _ _ (call (Value.ref 68) _) _ _ _); k_dflt (
   refine' Cl.use (frac_e _ _ _ _ _ _ _ _ _ ?kp ?ky ?kz ?kn) ?k1 ?k2 ?k3 ?k4 ?k5 ?kK ?kd ?ku ?_;
   (case k1 => k_asm); (case k2 => k_asm); (case k3 => k_asm); (case k4 => k_asm); (case k5 => k_asm); (case kK => first | exact rfl | assumption);
   (case kp => first | with_reducible assumption | omega); (case ky => bits_by_make); (case kz => bits_by_make); (case kn => decide); (case kd => k_extra "room"); (case ku => k_extra "units"); intro R9 hS9 D9 t9 u9 c9 h9 tk9 F9 N9 l1; (obtain ⟨hR9, hn9, hd9⟩ := hS9); (try k_extra "frac"); (try k_lt l1); (try dsimp only); (try k_fold))))
  (k_with "cc" => (k_here; (with_reducible show wpAny _ _ (call (Value.ref 89) _) _ _ _); k_dflt (
   refine' Cl.use (times_e _ _ _ _ _ ?kx ?ky ?kP ?kQ ?kz1 ?kz2 ?kz3 ?kz4 ?kn) ?k1 ?k2 ?k3 ?k4 ?k5 ?kK ?kd ?ku ?_;
   (case k1 => k_asm); (case k2 => k_asm); (case k3 => k_asm); (case k4 => k_asm); (case k5 => k_asm); (case kK => first | exact rfl | assumption);
   (case kx => k_mem); (case ky => k_mem); (case kP => first | with_reducible exact ratIs_self _ | with_reducible exact ratIs_int _ | with_reducible assumption | fail "rat_is"); (case kQ => first | with_reducible exact ratIs_self _ | with_reducible exact ratIs_int _ | with_reducible assumption | fail "rat_is"); (case kz1 => bits_by_make); (case kz2 => bits_by_make); (case kz3 => bits_by_make); (case kz4 => bits_by_make);
   (case kn => decide); (case kd => k_extra "room"); (case ku => k_extra "units"); intro R9 hS9 D9 t9 u9 c9 h9 tk9 F9 N9 l1; (obtain ⟨hR9, hn9, hd9⟩ := hS9); (try k_extra "ops"); (try k_lt l1); (try dsimp only); (try k_fold))))
  (k_with "cc" => (k_here; (with_reducible show wpAny _ _ (call (Value.ref 75) _) _ _ _); k_dflt (
   refine' Cl.use (plus_e _ _ _ _ _ ?kx ?ky ?kP ?kQ ?kz1 ?kz2 ?kz3 ?kz4 ?kn) ?k1 ?k2 ?k3 ?k4 ?k5 ?kK ?kd ?ku ?_;
   (case k1 => k_asm); (case k2 => k_asm); (case k3 => k_asm); (case k4 => k_asm); (case k5 => k_asm); (case kK => first | exact rfl | assumption);
   (case kx => k_mem); (case ky => k_mem); (case kP => first | with_reducible exact ratIs_self _ | with_reducible exact ratIs_int _ | with_reducible assumption | fail "rat_is"); (case kQ => first | with_reducible exact ratIs_self _ | with_reducible exact ratIs_int _ | with_reducible assumption | fail "rat_is"); (case kz1 => bits_by_make); (case kz2 => bits_by_make); (case kz3 => bits_by_make); (case kz4 => bits_by_make);
   (case kn => decide); (case kd => k_extra "room"); (case ku => k_extra "units"); intro R9 hS9 D9 t9 u9 c9 h9 tk9 F9 N9 l1; (obtain ⟨hR9, hn9, hd9⟩ := hS9); (try k_extra "ops"); (try k_lt l1); (try dsimp only); (try k_fold))))
  (k_with "cc" => (k_here; (with_reducible show wpAny _ _ (call (Value.ref 82) _) _ _ _); k_dflt (
   refine' Cl.use (minus_e _ _ _ _ _ ?kx ?ky ?kP ?kQ ?kz1 ?kz2 ?kz3 ?kz4 ?kn) ?k1 ?k2 ?k3 ?k4 ?k5 ?kK ?kd ?ku ?_;
   (case k1 => k_asm); (case k2 => k_asm); (case k3 => k_asm); (case k4 => k_asm); (case k5 => k_asm); (case kK => first | exact rfl | assumption);
   (case kx => k_mem); (case ky => k_mem); (case kP => first | with_reducible exact ratIs_self _ | with_reducible exact ratIs_int _ | with_reducible assumption | fail "rat_is"); (case kQ => first | with_reducible exact ratIs_self _ | with_reducible exact ratIs_int _ | with_reducible assumption | fail "rat_is"); (case kz1 => bits_by_make); (case kz2 => bits_by_make); (case kz3 => bits_by_make); (case kz4 => bits_by_make);
   (case kn => decide); (case kd => k_extra "room"); (case ku => k_extra "units"); intro R9 hS9 D9 t9 u9 c9 h9 tk9 F9 N9 l1; (obtain ⟨hR9, hn9, hd9⟩ := hS9); (try k_extra "ops"); (try k_lt l1); (try dsimp only); (try k_fold))))
  (k_with "cc" => (k_here; (with_reducible show wpAny _ _ (call (Value.ref 96) _) _ _ _); k_dflt (
   refine' Cl.use (neg_e _ _ _ _ _ ?kx ?kP ?kz1 ?kz2) ?k1 ?k2 ?k3 ?k4 ?k5 ?kK ?kd ?ku ?_;
   (case k1 => k_asm); (case k2 => k_asm); (case k3 => k_asm); (case k4 => k_asm); (case k5 => k_asm); (case kK => first | exact rfl | assumption);
   (case kx => k_mem); (case kP => first | with_reducible exact ratIs_self _ | with_reducible exact ratIs_int _ | with_reducible assumption | fail "rat_is"); (case kz1 => bits_by_make); (case kz2 => bits_by_make);
   (case kd => k_extra "room"); (case ku => k_extra "units"); intro R9 hS9 D9 t9 u9 c9 h9 tk9 F9 N9 l1; (obtain ⟨hR9, hn9, hd9⟩ := hS9); (try k_extra "ops"); (try k_lt l1); (try dsimp only); (try k_fold))))
  (k_with "bbm" => (k_extra "bits"))
  (k_with "fdiv" => (k_dflt (refine' fdiv_k ?fa ?fb ?fc ?_; (case fa => exact fr_ne (by assumption) (by assumption) (by assumption) (by assumption) (by assumption)); (case fb => exact fr_bits (by assumption) (by assumption) (by assumption) (by assumption) (by assumption) (by assumption)); (case fc => decide); k_whole)))
  (k_with "cc" => (k_here; (with_reducible show wpAny _ _ (call (Value.ref 103) _) _ _ _); k_dflt (
   refine' Cl.use (root_c _ _ _ _ _ _ _ ?kp ?kz ?kn) ?k1 ?k2 ?k3 ?k4 ?k5 ?kK ?kd ?ku ?_;
   (case k1 => k_asm); (case k2 => k_asm); (case k3 => k_asm); (case k4 => k_asm); (case k5 => k_asm); (case kK => first | exact rfl | assumption);
   (case kp => first | with_reducible exact sq2_nn _ _ | with_reducible exact sqp_nn _ _ | omega); (case kz => bits_by_make); (case kn => decide); (case kd => k_extra "room"); (case ku => k_extra "units"); intro r9 t9 h9 tk9 hS9 F9 N9; (try k_extra "root"); (try dsimp only); (try k_fold))))
  (k_with "cc" => (k_here; (with_reducible show wpAny _ _ (call (Value.ref 250) _) _ _ _); k_dflt (
   refine' Cl.use (lfrac_e _ _ _ _ _ _ _ _ _ ?kp ?ky ?kz ?kn) ?k1 ?k2 ?k3 ?k4 ?k5 ?kK ?kd ?ku ?_;
   (case k1 => k_asm); (case k2 => k_asm); (case k3 => k_asm); (case k4 => k_asm); (case k5 => k_asm); (case kK => first | exact rfl | assumption);
   (case kp => first | with_reducible assumption | k_extra "pos" | omega); (case ky => bits_by_make); (case kz => bits_by_make); (case kn => decide); (case kd => k_extra "room"); (case ku => k_extra "units"); intro R9 hS9 D9 t9 u9 c9 h9 tk9 F9 N9 l1; (obtain ⟨hR9, hn9, hd9⟩ := hS9); (try k_extra "lfrac"); (try k_lt l1); (try dsimp only); (try k_fold))))
  (k_with "cc" => (k_here; (with_reducible show wpAny _ _ (call (Value.ref 257) _) _ _ _); k_dflt (
   refine' Cl.use (near_c _ _ _ _ _ _ _ _ _ ?kp) ?k1 ?k2 ?k3 ?k4 ?k5 ?kK ?kd ?ku ?_;
   (case k1 => k_asm); (case k2 => k_asm); (case k3 => k_asm); (case k4 => k_asm); (case k5 => k_asm); (case kK => first | exact rfl | assumption);
   (case kp => first | assumption | k_extra "near"); (case kd => k_extra "room"); (case ku => k_extra "units"); intro h9 tk9 F9 N9; (try dsimp only); (try k_fold))))
  (k_with "cc" => (k_here; (with_reducible show wpAny _ _ (call (Value.ref 211) _) _ _ _); k_dflt (
   refine' Cl.use (side_e _ _ _ _ _ ?m1 ?m2 ?hX ?hY ?y1 ?y2 ?y3 ?y4 ?y5 ?y6) ?k1 ?k2 ?k3 ?k4 ?k5 ?kK ?kd ?ku ?_;
   (case k1 => k_asm); (case k2 => k_asm); (case k3 => k_asm); (case k4 => k_asm); (case k5 => k_asm); (case kK => first | exact rfl | assumption);
   (case m1 => k_mem); (case m2 => k_mem); (case hX => assumption); (case hY => assumption); (case y1 => assumption); (case y2 => assumption); (case y3 => k_extra "b70"); (case y4 => k_extra "b70"); (case y5 => k_extra "b70"); (case y6 => k_extra "b70"); (case kd => k_extra "room"); (case ku => k_extra "units");
   intro r9 I9 d9 wy9 k91 k92 k93 k94 u91 u92 u93 c9 h9 tk9 hS9 F9 N9; (try k_extra "side"); (try dsimp only); (try k_fold))))
  (k_with "cc" => (k_here; (with_reducible show wpAny _ _ (call (Value.ref 208) _) _ _ _); k_dflt (
   refine' Cl.use (trn_c _ _ _ _ _ ?m1 ?m2 ?m3 ?kx ?y1 ?y2) ?k1 ?k2 ?k3 ?k4 ?k5 ?kK ?kd ?ku ?_;
   (case k1 => k_asm); (case k2 => k_asm); (case k3 => k_asm); (case k4 => k_asm); (case k5 => k_asm); (case kK => first | exact rfl | assumption);
   (case m1 => k_mem); (case m2 => k_mem); (case m3 => k_mem); (case kx => assumption); (case y1 => assumption); (case y2 => assumption); (case kd => k_extra "room"); (case ku => k_extra "units");
   intro r9 C9 S9 D9 D91 D92 u91 u92 u93 u94 c9 c91 c92 h9 tk9 hS9 F9 N9; (obtain ⟨hT9, x1, x2, x3, x4⟩ := hS9); (try k_extra "trn"); (try dsimp only); (try k_fold))))
  (k_with "cc" => (k_here; (with_reducible show wpAny _ _ (call (Value.ref 162) _) _ _ _); k_dflt (
   refine' Cl.use (minit_c _ _ _ _ _) ?k1 ?k2 ?k3 ?k4 ?k5 ?kK ?kd ?ku ?_;
   (case k1 => k_asm); (case k2 => k_asm); (case k3 => k_asm); (case k4 => k_asm); (case k5 => k_asm); (case kK => first | exact rfl | assumption);
   (case kd => k_extra "room"); (case ku => k_extra "units");
   intro M9 d9 k91 k92 k93 k94 k95 k96 h9 tk9 F9 N9; (try dsimp only); (try k_fold))))
  (k_with "cc" => (k_here; (with_reducible show wpAny _ _ (call (Value.ref 222) _) _ _ _); k_dflt (
   refine' Cl.use (tmat_c _ _ _ _ _ ?m1 ?m2 ?mH ?m3 ?m4 ?m5 ?m6 ?m7 ?m8 ?z1 ?z2 ?z3 ?z4 ?z5 ?z6 ?z7 ?z8 ?z9 ?z10 ?z11 ?z12) ?k1 ?k2 ?k3 ?k4 ?k5 ?kK ?kd ?ku ?_;
   (case k1 => k_asm); (case k2 => k_asm); (case k3 => k_asm); (case k4 => k_asm); (case k5 => k_asm); (case kK => first | exact rfl | assumption);
   (case m1 => k_mem); (case m2 => k_mem); (case m3 => k_mem); (case m4 => k_mem); (case m5 => k_mem); (case m6 => k_mem); (case m7 => k_mem); (case m8 => k_mem); (case mH => first | with_reducible exact ratIs_self _ | with_reducible exact ratIs_int _ | with_reducible assumption | fail "rat_is");
   (case z1 => refine Nat.le_trans (by assumption) (by decide)); (case z2 => refine Nat.le_trans (by assumption) (by decide)); (case z3 => refine Nat.le_trans (by assumption) (by decide)); (case z4 => refine Nat.le_trans (by assumption) (by decide)); (case z5 => refine Nat.le_trans (by assumption) (by decide)); (case z6 => refine Nat.le_trans (by assumption) (by decide)); (case z7 => refine Nat.le_trans (by assumption) (by decide)); (case z8 => refine Nat.le_trans (by assumption) (by decide)); (case z9 => refine Nat.le_trans (by assumption) (by decide)); (case z10 => refine Nat.le_trans (by assumption) (by decide)); (case z11 => refine Nat.le_trans (by assumption) (by decide)); (case z12 => refine Nat.le_trans (by assumption) (by decide));
   (case kd => k_extra "room"); (case ku => k_extra "units");
   intro A9 B9 C9 D9 E9 G9 M9 d9 a91 a92 a93 a94 a95 a96 k91 k92 k93 k94 k95 k96 t91 t92 t93 t94 t95 t96 u91 u92 u93 u94 u95 u96 c91 c92 c93 c94 c95 c96 h9 tk9 hS9 F9 N9;
   (obtain ⟨hM9, ⟨x1, x2⟩, ⟨x3, x4⟩, ⟨x5, x6⟩, ⟨x7, x8⟩, ⟨x9, x10⟩, ⟨x11, x12⟩⟩ := hS9); (try k_extra "tmat"); (try dsimp only); (try k_fold))))
  (k_with "cc" => (k_here; (with_reducible show wpAny _ _ (call (Value.ref 152) _) _ _ _); k_dflt (
   refine' Cl.use (det_c _ _ _ _ _ ?mM ?md ?m1 ?m2 ?m3 ?m4 ?z1 ?w1 ?z2 ?w2 ?z3 ?w3 ?z4 ?w4) ?k1 ?k2 ?k3 ?k4 ?k5 ?kK ?kd ?ku ?_;
   (case k1 => k_asm); (case k2 => k_asm); (case k3 => k_asm); (case k4 => k_asm); (case k5 => k_asm); (case kK => first | exact rfl | assumption);
   (case mM => k_mem); (case md => k_mem); (case m1 => k_mem); (case m2 => k_mem); (case m3 => k_mem); (case m4 => k_mem);
   (case z1 => assumption); (case w1 => assumption); (case z2 => assumption); (case w2 => assumption); (case z3 => assumption); (case w3 => assumption); (case z4 => assumption); (case w4 => assumption); (case kd => k_extra "room"); (case ku => k_extra "units");
   intro R9 D9 t9 u9 c9 h9 tk9 hDet F9 N9; (try k_extra "det"); (try dsimp only); (try k_fold))))
  (k_with "cc" => (k_here; (with_reducible show wpAny _ _ (call (Value.ref 138) _) _ _ _); k_dflt (
   refine' Cl.use (pt_c _ _ _ _ _ ?mM ?md ?m1 ?m2 ?m3 ?m4 ?m5 ?m6 ?n0 ?nx ?ny ?hH ?hG ?z1 ?w1 ?z2 ?w2 ?z3 ?w3 ?z4 ?w4 ?z5 ?w5 ?z6 ?w6 ?v1 ?v2 ?v3 ?v4) ?k1 ?k2 ?k3 ?k4 ?k5 ?kK ?kd ?ku ?_;
   (case k1 => k_asm); (case k2 => k_asm); (case k3 => k_asm); (case k4 => k_asm); (case k5 => k_asm); (case kK => first | exact rfl | assumption);
   (case mM => k_mem); (case md => k_mem); (case m1 => k_mem); (case m2 => k_mem); (case m3 => k_mem); (case m4 => k_mem); (case m5 => k_mem); (case m6 => k_mem); (case n0 => k_mem); (case nx => k_mem); (case ny => k_mem);
   (case hH => first | with_reducible exact ratIs_self _ | with_reducible exact ratIs_int _ | with_reducible assumption | fail "rat_is"); (case hG => first | with_reducible exact ratIs_self _ | with_reducible exact ratIs_int _ | with_reducible assumption | fail "rat_is");
   (case z1 => assumption); (case w1 => assumption); (case z2 => assumption); (case w2 => assumption); (case z3 => assumption); (case w3 => assumption); (case z4 => assumption); (case w4 => assumption); (case z5 => assumption); (case w5 => assumption); (case z6 => assumption); (case w6 => assumption);
   (case v1 => first | decide | exact Nat.le_trans (by assumption) (by decide)); (case v2 => first | decide | exact Nat.le_trans (by assumption) (by decide)); (case v3 => first | decide | exact Nat.le_trans (by assumption) (by decide)); (case v4 => first | decide | exact Nat.le_trans (by assumption) (by decide)); (case kd => k_extra "room"); (case ku => k_extra "units");
   intro X9 Y9 D9 D91 D92 u91 u92 u93 u94 c9 c91 c92 h9 tk9 hP9 F9 N9; (try k_extra "pt"); (try dsimp only); (try k_fold))))
  (k_with "subC" => (k_here; (with_reducible show wpAny _ _ (subscriptTail _ _ (Value.ref _) (Value.int _ _)) _ _ _); k_dflt (refine' item_litK ?k1 ?k2 ?k3 ?k4 ?_ ?k6; (case k1 => exact News.isList (by k_asm) (by k_mem)); (case k2 => decide); (case k3 => decide); (case k4 => rfl); (case k6 => with_unfolding_all rfl); k_whole)))
  repeat' (first | (k_unfold; (try dsimp only)) | ((with_reducible show wpAny _ _ (exec _ _) _ _ _); k_fold; walk1) | walk1 | (dsimp only; walk1) | fail "no step")
  all_goals (
    refine' hret _ _ _ _ _ _ _ _ ?hp (by assumption) (by assumption) (by assumption)
    case hp => exact ⟨Int.mul_nonneg (by split <;> omega) (by split <;> omega), Int.fmod_nonneg_of_pos _ (by decide), Int.fmod_lt_of_pos _ (by decide)⟩)
theorem take_in {S : Addr} {o o' : Obj} {led led' : Led} (U : Upd S o o' led led') {h₀ h' : Heap} {L : Addr} (N : News h₀ L h' ((S, o') :: led.filter (fun x => x.1 != S))) : News h₀ L h' led' := by
  obtain ⟨pre, post, e1, e2, h1, h2⟩ := Upd.split U
  subst e1 e2
  intro p hp
  rcases List.mem_append.mp hp with hp | hp
  · refine N p (.tail _ (List.mem_filter.mpr ⟨List.mem_append.mpr (.inl hp), ?_⟩))
    simpa using h1 p hp
  · rcases List.mem_cons.mp hp with rfl | hp
    · exact N _ (.head _)
    · refine N p (.tail _ (List.mem_filter.mpr ⟨List.mem_append.mpr (.inr (.tail _ hp)), ?_⟩))
      simpa using h2 p hp
theorem take_ne {S : Addr} {led : Led} : ∀ x ∈ led.filter (fun x => x.1 != S), x.1 ≠ S := by
  intro x hx
  have := (List.mem_filter.mp hx).2
  simpa using this
theorem take_out {S : Addr} {o : Obj} {led : Led} {h₀ h : Heap} {L : Addr} (hm : (S, o) ∈ led) (N : News h₀ L h led) : News h₀ L h ((S, o) :: led.filter (fun x => x.1 != S)) := by
  intro p hp
  rcases List.mem_cons.mp hp with rfl | hp
  · exact N _ hm
  · exact N p (List.mem_filter.mp hp).1
abbrev RTakeU (S : Addr) (o : Obj) (n : Nat) (top : Int) (led : Led) : Heap → Addr → (Str → Option Value) → Shared → (Value → Shared → Prop) → Prop :=
  fun h₀ L m s Q => ∀ (r p q : Int) (t t1 t2 : Tok) (h' : Heap) (tk' : Nat), (0 ≤ r ∧ r < top) → (0 ≤ p ∧ 0 ≤ q ∧ q < 2147483647) → Fr h₀ L h' m →
    (∀ led', Upd S o (listOf #[.int p t1, .int q t2] n) led led' → News h₀ L h' led') → Q (.int r t) { s with heap := h', toks := tk' }
theorem take_e (w : World) (mean : ExcName → Option Value) (mg mb : Str → Option Value) (led : Led) {S : Addr} {p q top : Int} {t1 t2 tt : Tok} {n : Nat}
    (hm : (S, listOf #[.int p t1, .int q t2] n) ∈ led) (hp : 0 ≤ p) (hq : 0 ≤ q) (hq2 : q < 2147483647) (ht : 0 < top) (hz : intBits top ≤ 64) :
    Cl w mean mg mb 236 [.ref S, .int top tt] led 2 (RTakeU S (listOf #[.int p t1, .int q t2] n) n top led) :=
  fun _ _ _ _ _ _ _ _ _ _ _ _ _ _ _ _ _ B F X N T hk hd hu r =>
    take_c w mean mg mb (led.filter (fun x => x.1 != S)) take_ne hp hq hq2 ht hz _ _ _ _ _ _ _ _ _ _ _ _ _ _ _ _ _ B F X (take_out hm N) T hk hd hu
      fun r' p' q' t t1' t2' h' tk' hr hpq F' N' => r r' p' q' t t1' t2' h' tk' hr hpq F' fun _ U => take_in U N'
theorem three {r : Int} (h : 0 ≤ r ∧ r < 3) : r = 0 ∨ r = 1 ∨ r = 2 := by omega
set_option maxHeartbeats 8000000 in
theorem one_c (w : World) (mean : ExcName → Option Value) (mg mb : Str → Option Value) (rest : Led) {S T a1 a2 a3 : Addr} {p q : Int} {t1 t2 : Tok} {n nT : Nat}
    (hne : ∀ x ∈ (T, listOf #[.ref a1, .ref a2, .ref a3] nT) :: rest, x.1 ≠ S) (hp : 0 ≤ p) (hq : 0 ≤ q) (hq2 : q < 2147483647) :
    Cl w mean mg mb 243 [.ref S, .ref T] ((S, listOf #[.int p t1, .int q t2] n) :: (T, listOf #[.ref a1, .ref a2, .ref a3] nT) :: rest) 4
      (fun h₀ L m s Q => ∀ (x : Addr) (p q : Int) (t1 t2 : Tok) (h' : Heap) (tk' : Nat), (x = a1 ∨ x = a2 ∨ x = a3) → (0 ≤ p ∧ 0 ≤ q ∧ q < 2147483647) → Fr h₀ L h' m →
        News h₀ L h' ((S, listOf #[.int p t1, .int q t2] n) :: (T, listOf #[.ref a1, .ref a2, .ref a3] nT) :: rest) → Q (.ref x) { s with heap := h', toks := tk' }) := by
  unfold Cl
  k_fill
  intro dp un gd cn cs a ccd cl outer A₀ base h₀ L m s Q E BB F X NN T' hk hdp hun hret
  refine wpAny_call ?_
  k_with_none
  (k_with "bbm" => (first
  | with_reducible assumption
  | ((with_reducible apply bits_mnum) <;> bits_by_make)
  | ((with_reducible apply bits_mden) <;> bits_by_make)
  | ((with_reducible apply bits_anum) <;> bits_by_make)
  | ((with_reducible apply bits_aden) <;> bits_by_make)
  | ((with_reducible apply bits_snum) <;> bits_by_make)
  | ((with_reducible apply bits_sden) <;> bits_by_make)
  | ((with_reducible apply bits_nnum) <;> bits_by_make)
  | ((with_reducible apply bits_nden) <;> bits_by_make)
  | fail "bits"))
  (k_with "enter" => ((refine' code_def ?k1 ?k2 ?k3 ?k4 ?k5 ?kA ?kF ?kK ?k6 ?k7 ?k8 ?k9 ?kB ?_ ?c2 ?c3 ?c4 ?c5; (case kA => exact rfl); (case kF => exact rfl); (case kK => assumption); (case k1 => k_asm); (case k2 => k_asm); (case k3 => k_asm); (case k4 => k_asm); (case k5 => k_asm); (case k6 => k_is); (case k7 => k_is); (case k8 => k_extra "room"); (case k9 => first | exact BindsTo.of_eq rfl | exact binds_K (by k_in) rfl (by k_is) rfl rfl rfl); (case c5 => decide); (case kB => exact locs rfl); (case c2 => exact rfl); (case c3 => exact rfl); (case c4 => exact rfl); k_whole; intro g' L' h' FG' F' N' B' X' T'; (try dsimp only); (try k_lift B'); (try k_fold))))
  (k_with "room" => first
    | ((try simp only [depth_under_make, depth_under_kw, depth_in1, depth_deeper, depth_caller]); decide)
    | ((try simp only [depth_under_make, depth_under_kw, depth_in1, depth_deeper, depth_caller]); (try dsimp only [ktrTop]); refine Nat.lt_of_le_of_lt ?_ hdp; (try simp only [Nat.add_assoc]); exact Nat.add_le_add_left (by decide) _)
    | ktr_room)
  (k_with "units" => first
    | ((simp only [units_under_make, units_in1, units_deeper, Around.mark_units, units_caller]); (try dsimp only [ktrTop]); refine Nat.lt_of_le_of_lt ?_ hun; (try simp only [Nat.add_assoc]); exact Nat.add_le_add_left (by decide) _)
    | ((simp only [units_under_make, units_in1, units_deeper, Around.mark_units, units_caller]); rw [cLine_is]; decide)
    | ktr_units)
  (k_with "fdiv" => (k_dflt (refine' fdiv_k ?fa ?fb ?fc ?_; (case fa => omega); (case fb => bits_by_make); (case fc => decide); k_whole)))
  (k_with "subT" => (k_here; (with_reducible show wpAny _ _ (subscriptTail _ _ (Value.ref _) (Value.int _ _)) _ _ _); k_dflt (refine' item_tupleT ?t ?a ?b ?c ?d ?_; (case t => exact News.isTup (by k_asm) (by k_mem)); (case a => decide); (case b => decide); (case c => rfl); (case d => rfl); k_whole)))
  (k_with "cc" => (k_here; (with_reducible show wpAny _ _ (call (Value.ref 60) _) _ _ _); k_dflt (
   refine' Cl.use (gcd_c _ _ _ _ _ _ _ _ _ ?kp) ?k1 ?k2 ?k3 ?k4 ?k5 ?kK ?kd ?ku ?_;
   (case k1 => k_asm); (case k2 => k_asm); (case k3 => k_asm); (case k4 => k_asm); (case k5 => k_asm); (case kK => first | exact rfl | assumption);
   (case kp => first | assumption | omega); (case kd => k_extra "room"); (case ku => k_extra "units"); intro t9 h9 tk9 F9 N9; (try dsimp only); (try k_fold))))
  (k_with "cc" => (k_here; (with_reducible show wpAny _ _ (call (Value.ref 68) _) _ _ _); k_dflt (
   refine' Cl.use (frac_c _ _ _ _ _ _ _ _ _ ?kp ?kz ?kn) ?k1 ?k2 ?k3 ?k4 ?k5 ?kK ?kd ?ku ?_;
   (case k1 => k_asm); (case k2 => k_asm); (case k3 => k_asm); (case k4 => k_asm); (case k5 => k_asm); (case kK => first | exact rfl | assumption);
   (case kp => first | assumption | omega); (case kz => bits_by_make); (case kn => decide); (case kd => k_extra "room"); (case ku => k_extra "units"); intro D9 t9 u9 c9 h9 tk9 F9 N9 l1; (try k_lt l1); (try dsimp only); (try k_fold))))
  (k_with "cc" => (k_here; (with_reducible show wpAny _ _ (call (Value.ref 89) _) _ _ _); k_dflt (
   refine' Cl.use (times_c _ _ _ _ _ ?kx ?ky ?kP ?kQ ?kz1 ?kz2 ?kz3 ?kz4 ?kn) ?k1 ?k2 ?k3 ?k4 ?k5 ?kK ?kd ?ku ?_;
   (case k1 => k_asm); (case k2 => k_asm); (case k3 => k_asm); (case k4 => k_asm); (case k5 => k_asm); (case kK => first | exact rfl | assumption);
   (case kx => k_mem); (case ky => k_mem); (case kP => first | with_reducible exact ratIs_self _ | with_reducible exact ratIs_int _ | with_reducible assumption | fail "rat_is"); (case kQ => first | with_reducible exact ratIs_self _ | with_reducible exact ratIs_int _ | with_reducible assumption | fail "rat_is"); (case kz1 => bits_by_make); (case kz2 => bits_by_make); (case kz3 => bits_by_make); (case kz4 => bits_by_make);
   (case kn => decide); (case kd => k_extra "room"); (case ku => k_extra "units"); intro D9 t9 u9 c9 h9 tk9 F9 N9 l1; (try k_lt l1); (try dsimp only); (try k_fold))))
  (k_with "cc" => (k_here; (with_reducible show wpAny _ _ (call (Value.ref 75) _) _ _ _); k_dflt (
   refine' Cl.use (plus_c _ _ _ _ _ ?kx ?ky ?kP ?kQ ?kz1 ?kz2 ?kz3 ?kz4 ?kn) ?k1 ?k2 ?k3 ?k4 ?k5 ?kK ?kd ?ku ?_;
   (case k1 => k_asm); (case k2 => k_asm); (case k3 => k_asm); (case k4 => k_asm); (case k5 => k_asm); (case kK => first | exact rfl | assumption);
   (case kx => k_mem); (case ky => k_mem); (case kP => first | with_reducible exact ratIs_self _ | with_reducible exact ratIs_int _ | with_reducible assumption | fail "rat_is"); (case kQ => first | with_reducible exact ratIs_self _ | with_reducible exact ratIs_int _ | with_reducible assumption | fail "rat_is"); (case kz1 => bits_by_make); (case kz2 => bits_by_make); (case kz3 => bits_by_make); (case kz4 => bits_by_make);
   (case kn => decide); (case kd => k_extra "room"); (case ku => k_extra "units"); intro D9 t9 u9 c9 h9 tk9 F9 N9 l1; (try k_lt l1); (try dsimp only); (try k_fold))))
  (k_with "cc" => (k_here; (with_reducible show wpAny _ _ (call (Value.ref 82) _) _ _ _); k_dflt (
   refine' Cl.use (minus_c _ _ _ _ _ ?kx ?ky ?kP ?kQ ?kz1 ?kz2 ?kz3 ?kz4 ?kn) ?k1 ?k2 ?k3 ?k4 ?k5 ?kK ?kd ?ku ?_;
   (case k1 => k_asm); (case k2 => k_asm); (case k3 => k_asm); (case k4 => k_asm); (case k5 => k_asm); (case kK => first | exact rfl | assumption);
   (case kx => k_mem); (case ky => k_mem); (case kP => first | with_reducible exact ratIs_self _ | with_reducible exact ratIs_int _ | with_reducible assumption | fail "rat_is"); (case kQ => first | with_reducible exact ratIs_self _ | with_reducible exact ratIs_int _ | with_reducible assumption | fail "rat_is"); (case kz1 => bits_by_make); (case kz2 => bits_by_make); (case kz3 => bits_by_make); (case kz4 => bits_by_make);
   (case kn => decide); (case kd => k_extra "room"); (case ku => k_extra "units"); intro D9 t9 u9 c9 h9 tk9 F9 N9 l1; (try k_lt l1); (try dsimp only); (try k_fold))))
  (k_with "cc" => (k_here; (with_reducible show wpAny _ _ (call (Value.ref 96) _) _ _ _); k_dflt (
   refine' Cl.use (neg_c _ _ _ _ _ ?kx ?kP) ?k1 ?k2 ?k3 ?k4 ?k5 ?kK ?kd ?ku ?_;
   (case k1 => k_asm); (case k2 => k_asm); (case k3 => k_asm); (case k4 => k_asm); (case k5 => k_asm); (case kK => first | exact rfl | assumption);
   (case kx => k_mem); (case kP => first | with_reducible exact ratIs_self _ | with_reducible exact ratIs_int _ | with_reducible assumption | fail "rat_is");
   (case kd => k_extra "room"); (case ku => k_extra "units"); intro D9 t9 u9 c9 h9 tk9 F9 N9 l1; (try k_lt l1); (try dsimp only); (try k_fold))))
  (k_with "cc" => (k_here; (with_reducible show wpAny _ _ (call (Value.ref 68) _) _ _ _); k_dflt (
   refine' Cl.use (frac_e _ _ _ _ _ _ _ _ _ ?kp ?ky ?kz ?kn) ?k1 ?k2 ?k3 ?k4 ?k5 ?kK ?kd ?ku ?_;
   (case k1 => k_asm); (case k2 => k_asm); (case k3 => k_asm); (case k4 => k_asm); (case k5 => k_asm); (case kK => first | exact rfl | assumption);
   (case kp => first | with_reducible assumption | omega); (case ky => bits_by_make); (case kz => bits_by_make); (case kn => decide); (case kd => k_extra "room"); (case ku => k_extra "units"); intro R9 hS9 D9 t9 u9 c9 h9 tk9 F9 N9 l1; (obtain ⟨hR9, hn9, hd9⟩ := hS9); (try k_extra "frac"); (try k_lt l1); (try dsimp only); (try k_fold))))
  (k_with "cc" => (k_here; (with_reducible show wpAny _ _ (call (Value.ref 89) _) _ _ _); k_dflt (
   refine' Cl.use (times_e _ _ _ _ _ ?kx ?ky ?kP ?kQ ?kz1 ?kz2 ?kz3 ?kz4 ?kn) ?k1 ?k2 ?k3 ?k4 ?k5 ?kK ?kd ?ku ?_;
   (case k1 => k_asm); (case k2 => k_asm); (case k3 => k_asm); (case k4 => k_asm); (case k5 => k_asm); (case kK => first | exact rfl | assumption);
   (case kx => k_mem); (case ky => k_mem); (case kP => first | with_reducible exact ratIs_self _ | with_reducible exact ratIs_int _ | with_reducible assumption | fail "rat_is"); (case kQ => first | with_reducible exact ratIs_self _ | with_reducible exact ratIs_int _ | with_reducible assumption | fail "rat_is"); (case kz1 => bits_by_make); (case kz2 => bits_by_make); (case kz3 => bits_by_make); (case kz4 => bits_by_make);
   (case kn => decide); (case kd => k_extra "room"); (case ku => k_extra "units"); intro R9 hS9 D9 t9 u9 c9 h9 tk9 F9 N9 l1; (obtain ⟨hR9, hn9, hd9⟩ := hS9); (try k_extra "ops"); (try k_lt l1); (try dsimp only); (try k_fold))))
  (k_with "cc" => (k_here; (with_reducible show wpAny _ _ (call (Value.ref 75) _) _ _ _); k_dflt (
   refine' Cl.use (plus_e _ _ _ _ _ ?kx ?ky ?kP ?kQ ?kz1 ?kz2 ?kz3 ?kz4 ?kn) ?k1 ?k2 ?k3 ?k4 ?k5 ?kK ?kd ?ku ?_;
   (case k1 => k_asm); (case k2 => k_asm); (case k3 => k_asm); (case k4 => k_asm); (case k5 => k_asm); (case kK => first | exact rfl | assumption);
   (case kx => k_mem); (case ky => k_mem); (case kP => first | with_reducible exact ratIs_self _ | with_reducible exact ratIs_int _ | with_reducible assumption | fail "rat_is"); (case kQ => first | with_reducible exact ratIs_self _ | with_reducible exact ratIs_int _ | with_reducible assumption | fail "rat_is"); (case kz1 => bits_by_make); (case kz2 => bits_by_make); (case kz3 => bits_by_make); (case kz4 => bits_by_make);
   (case kn => decide); (case kd => k_extra "room"); (case ku => k_extra "units"); intro R9 hS9 D9 t9 u9 c9 h9 tk9 F9 N9 l1; (obtain ⟨hR9, hn9, hd9⟩ := hS9); (try k_extra "ops"); (try k_lt l1); (try dsimp only); (try k_fold))))
  (k_with "cc" => (k_here; (with_reducible show wpAny _ _ (call (Value.ref 82) _) _ _ _); k_dflt (
   refine' Cl.use (minus_e _ _ _ _ _ ?kx ?ky ?kP ?kQ ?kz1 ?kz2 ?kz3 ?kz4 ?kn) ?k1 ?k2 ?k3 ?k4 ?k5 ?kK ?kd ?ku ?_;
   (case k1 => k_asm); (case k2 => k_asm); (case k3 => k_asm); (case k4 => k_asm); (case k5 => k_asm); (case kK => first | exact rfl | assumption);
   (case kx => k_mem); (case ky => k_mem); (case kP => first | with_reducible exact ratIs_self _ | with_reducible exact ratIs_int _ | with_reducible assumption | fail "rat_is"); (case kQ => first | with_reducible exact ratIs_self _ | with_reducible exact ratIs_int _ | with_reducible assumption | fail "rat_is"); (case kz1 => bits_by_make); (case kz2 => bits_by_make); (case kz3 => bits_by_make); (case kz4 => bits_by_make);
   (case kn => decide); (case kd => k_extra "room"); (case ku => k_extra "units"); intro R9 hS9 D9 t9 u9 c9 h9 tk9 F9 N9 l1; (obtain ⟨hR9, hn9, hd9⟩ := hS9); (try k_extra "ops"); (try k_lt l1); (try dsimp only); (try k_fold))))
  (k_with "cc" => (k_here; (with_reducible show wpAny _ _ (call (Value.ref 96) _) _ _ _); k_dflt (
   refine' Cl.use (neg_e _ _ _ _ _ ?kx ?kP ?kz1 ?kz2) ?k1 ?k2 ?k3 ?k4 ?k5 ?kK ?kd ?ku ?_;
   (case k1 => k_asm); (case k2 => k_asm); (case k3 => k_asm); (case k4 => k_asm); (case k5 => k_asm); (case kK => first | exact rfl | assumption);
   (case kx => k_mem); (case kP => first | with_reducible exact ratIs_self _ | with_reducible exact ratIs_int _ | with_reducible assumption | fail "rat_is"); (case kz1 => bits_by_make); (case kz2 => bits_by_make);
   (case kd => k_extra "room"); (case ku => k_extra "units"); intro R9 hS9 D9 t9 u9 c9 h9 tk9 F9 N9 l1; (obtain ⟨hR9, hn9, hd9⟩ := hS9); (try k_extra "ops"); (try k_lt l1); (try dsimp only); (try k_fold))))
  (k_with "bbm" => (k_extra "bits"))
  (k_with "fdiv" => (k_dflt (refine' fdiv_k ?fa ?fb ?fc ?_; (case fa => exact fr_ne (by assumption) (by assumption) (by assumption) (by assumption) (by assumption)); (case fb => exact fr_bits (by assumption) (by assumption) (by assumption) (by assumption) (by assumption) (by assumption)); (case fc => decide); k_whole)))
  (k_with "cc" => (k_here; (with_reducible show wpAny _ _ (call (Value.ref 103) _) _ _ _); k_dflt (
   refine' Cl.use (root_c _ _ _ _ _ _ _ ?kp ?kz ?kn) ?k1 ?k2 ?k3 ?k4 ?k5 ?kK ?kd ?ku ?_;
   (case k1 => k_asm); (case k2 => k_asm); (case k3 => k_asm); (case k4 => k_asm); (case k5 => k_asm); (case kK => first | exact rfl | assumption);
   (case kp => first | with_reducible exact sq2_nn _ _ | with_reducible exact sqp_nn _ _ | omega); (case kz => bits_by_make); (case kn => decide); (case kd => k_extra "room"); (case ku => k_extra "units"); intro r9 t9 h9 tk9 hS9 F9 N9; (try k_extra "root"); (try dsimp only); (try k_fold))))
  (k_with "cc" => (k_here; (with_reducible show wpAny _ _ (call (Value.ref 250) _) _ _ _); k_dflt (
   refine' Cl.use (lfrac_e _ _ _ _ _ _ _ _ _ ?kp ?ky ?kz ?kn) ?k1 ?k2 ?k3 ?k4 ?k5 ?kK ?kd ?ku ?_;
   (case k1 => k_asm); (case k2 => k_asm); (case k3 => k_asm); (case k4 => k_asm); (case k5 => k_asm); (case kK => first | exact rfl | assumption);
   (case kp => first | with_reducible assumption | k_extra "pos" | omega); (case ky => bits_by_make); (case kz => bits_by_make); (case kn => decide); (case kd => k_extra "room"); (case ku => k_extra "units"); intro R9 hS9 D9 t9 u9 c9 h9 tk9 F9 N9 l1; (obtain ⟨hR9, hn9, hd9⟩ := hS9); (try k_extra "lfrac"); (try k_lt l1); (try dsimp only); (try k_fold))))
  (k_with "cc" => (k_here; (with_reducible show wpAny _ _ (call (Value.ref 257) _) _ _ _); k_dflt (
   refine' Cl.use (near_c _ _ _ _ _ _ _ _ _ ?kp) ?k1 ?k2 ?k3 ?k4 ?k5 ?kK ?kd ?ku ?_;
   (case k1 => k_asm); (case k2 => k_asm); (case k3 => k_asm); (case k4 => k_asm); (case k5 => k_asm); (case kK => first | exact rfl | assumption);
   (case kp => first | assumption | k_extra "near"); (case kd => k_extra "room"); (case ku => k_extra "units"); intro h9 tk9 F9 N9; (try dsimp only); (try k_fold))))
  (k_with "cc" => (k_here; (with_reducible show wpAny _ _ (call (Value.ref 211) _) _ _ _); k_dflt (
   refine' Cl.use (side_e _ _ _ _ _ ?m1 ?m2 ?hX ?hY ?y1 ?y2 ?y3 ?y4 ?y5 ?y6) ?k1 ?k2 ?k3 ?k4 ?k5 ?kK ?kd ?ku ?_;
   (case k1 => k_asm); (case k2 => k_asm); (case k3 => k_asm); (case k4 => k_asm); (case k5 => k_asm); (case kK => first | exact rfl | assumption);
   (case m1 => k_mem); (case m2 => k_mem); (case hX => assumption); (case hY => assumption); (case y1 => assumption); (case y2 => assumption); (case y3 => k_extra "b70"); (case y4 => k_extra "b70"); (case y5 => k_extra "b70"); (case y6 => k_extra "b70"); (case kd => k_extra "room"); (case ku => k_extra "units");
   intro r9 I9 d9 wy9 k91 k92 k93 k94 u91 u92 u93 c9 h9 tk9 hS9 F9 N9; (try k_extra "side"); (try dsimp only); (try k_fold))))
  (k_with "cc" => (k_here; (with_reducible show wpAny _ _ (call (Value.ref 208) _) _ _ _); k_dflt (
   refine' Cl.use (trn_c _ _ _ _ _ ?m1 ?m2 ?m3 ?kx ?y1 ?y2) ?k1 ?k2 ?k3 ?k4 ?k5 ?kK ?kd ?ku ?_;
   (case k1 => k_asm); (case k2 => k_asm); (case k3 => k_asm); (case k4 => k_asm); (case k5 => k_asm); (case kK => first | exact rfl | assumption);
   (case m1 => k_mem); (case m2 => k_mem); (case m3 => k_mem); (case kx => assumption); (case y1 => assumption); (case y2 => assumption); (case kd => k_extra "room"); (case ku => k_extra "units");
   intro r9 C9 S9 D9 D91 D92 u91 u92 u93 u94 c9 c91 c92 h9 tk9 hS9 F9 N9; (obtain ⟨hT9, x1, x2, x3, x4⟩ := hS9); (try k_extra "trn"); (try dsimp only); (try k_fold))))
  (k_with "cc" => (k_here; (with_reducible show wpAny _ _ (call (Value.ref 162) _) _ _ _); k_dflt (
   refine' Cl.use (minit_c _ _ _ _ _) ?k1 ?k2 ?k3 ?k4 ?k5 ?kK ?kd ?ku ?_;
   (case k1 => k_asm); (case k2 => k_asm); (case k3 => k_asm); (case k4 => k_asm); (case k5 => k_asm); (case kK => first | exact rfl | assumption);
   (case kd => k_extra "room"); (case ku => k_extra "units");
   intro M9 d9 k91 k92 k93 k94 k95 k96 h9 tk9 F9 N9; (try dsimp only); (try k_fold))))
  (k_with "cc" => (k_here; (with_reducible show wpAny _ _ (call (Value.ref 222) _) _ _ _); k_dflt (
   refine' Cl.use (tmat_c _ _ _ _ _ ?m1 ?m2 ?mH ?m3 ?m4 ?m5 ?m6 ?m7 ?m8 ?z1 ?z2 ?z3 ?z4 ?z5 ?z6 ?z7 ?z8 ?z9 ?z10 ?z11 ?z12) ?k1 ?k2 ?k3 ?k4 ?k5 ?kK ?kd ?ku ?_;
   (case k1 => k_asm); (case k2 => k_asm); (case k3 => k_asm); (case k4 => k_asm); (case k5 => k_asm); (case kK => first | exact rfl | assumption);
   (case m1 => k_mem); (case m2 => k_mem); (case m3 => k_mem); (case m4 => k_mem); (case m5 => k_mem); (case m6 => k_mem); (case m7 => k_mem); (case m8 => k_mem); (case mH => first | with_reducible exact ratIs_self _ | with_reducible exact ratIs_int _ | with_reducible assumption | fail "rat_is");
   (case z1 => refine Nat.le_trans (by assumption) (by decide)); (case z2 => refine Nat.le_trans (by assumption) (by decide)); (case z3 => refine Nat.le_trans (by assumption) (by decide)); (case z4 => refine Nat.le_trans (by assumption) (by decide)); (case z5 => refine Nat.le_trans (by assumption) (by decide)); (case z6 => refine Nat.le_trans (by assumption) (by decide)); (case z7 => refine Nat.le_trans (by assumption) (by decide)); (case z8 => refine Nat.le_trans (by assumption) (by decide)); (case z9 => refine Nat.le_trans (by assumption) (by decide)); (case z10 => refine Nat.le_trans (by assumption) (by decide)); (case z11 => refine Nat.le_trans (by assumption) (by decide)); (case z12 => refine Nat.le_trans (by assumption) (by decide));
   (case kd => k_extra "room"); (case ku => k_extra "units");
   intro A9 B9 C9 D9 E9 G9 M9 d9 a91 a92 a93 a94 a95 a96 k91 k92 k93 k94 k95 k96 t91 t92 t93 t94 t95 t96 u91 u92 u93 u94 u95 u96 c91 c92 c93 c94 c95 c96 h9 tk9 hS9 F9 N9;
   (obtain ⟨hM9, ⟨x1, x2⟩, ⟨x3, x4⟩, ⟨x5, x6⟩, ⟨x7, x8⟩, ⟨x9, x10⟩, ⟨x11, x12⟩⟩ := hS9); (try k_extra "tmat"); (try dsimp only); (try k_fold))))
  (k_with "cc" => (k_here; (with_reducible show wpAny _ _ (call (Value.ref 152) _) _ _ _); k_dflt (
   refine' Cl.use (det_c _ _ _ _ _ ?mM ?md ?m1 ?m2 ?m3 ?m4 ?z1 ?w1 ?z2 ?w2 ?z3 ?w3 ?z4 ?w4) ?k1 ?k2 ?k3 ?k4 ?k5 ?kK ?kd ?ku ?_;
   (case k1 => k_asm); (case k2 => k_asm); (case k3 => k_asm); (case k4 => k_asm); (case k5 => k_asm); (case kK => first | exact rfl | assumption);
   (case mM => k_mem); (case md => k_mem); (case m1 => k_mem); (case m2 => k_mem); (case m3 => k_mem); (case m4 => k_mem);
   (case z1 => assumption); (case w1 => assumption); (case z2 => assumption); (case w2 => assumption); (case z3 => assumption); (case w3 => assumption); (case z4 => assumption); (case w4 => assumption); (case kd => k_extra "room"); (case ku => k_extra "units");
   intro R9 D9 t9 u9 c9 h9 tk9 hDet F9 N9; (try k_extra "det"); (try dsimp only); (try k_fold))))
  (k_with "cc" => (k_here; (with_reducible show wpAny _ _ (call (Value.ref 138) _) _ _ _); k_dflt (
   refine' Cl.use (pt_c _ _ _ _ _ ?mM ?md ?m1 ?m2 ?m3 ?m4 ?m5 ?m6 ?n0 ?nx ?ny ?hH ?hG ?z1 ?w1 ?z2 ?w2 ?z3 ?w3 ?z4 ?w4 ?z5 ?w5 ?z6 ?w6 ?v1 ?v2 ?v3 ?v4) ?k1 ?k2 ?k3 ?k4 ?k5 ?kK ?kd ?ku ?_;
   (case k1 => k_asm); (case k2 => k_asm); (case k3 => k_asm); (case k4 => k_asm); (case k5 => k_asm); (case kK => first | exact rfl | assumption);
   (case mM => k_mem); (case md => k_mem); (case m1 => k_mem); (case m2 => k_mem); (case m3 => k_mem); (case m4 => k_mem); (case m5 => k_mem); (case m6 => k_mem); (case n0 => k_mem); (case nx => k_mem); (case ny => k_mem);
   (case hH => first | with_reducible exact ratIs_self _ | with_reducible exact ratIs_int _ | with_reducible assumption | fail "rat_is"); (case hG => first | with_reducible exact ratIs_self _ | with_reducible exact ratIs_int _ | with_reducible assumption | fail "rat_is");
   (case z1 => assumption); (case w1 => assumption); (case z2 => assumption); (case w2 => assumption); (case z3 => assumption); (case w3 => assumption); (case z4 => assumption); (case w4 => assumption); (case z5 => assumption); (case w5 => assumption); (case z6 => assumption); (case w6 => assumption);
   (case v1 => first | decide | exact Nat.le_trans (by assumption) (by decide)); (case v2 => first | decide | exact Nat.le_trans (by assumption) (by decide)); (case v3 => first | decide | exact Nat.le_trans (by assumption) (by decide)); (case v4 => first | decide | exact Nat.le_trans (by assumption) (by decide)); (case kd => k_extra "room"); (case ku => k_extra "units");
   intro X9 Y9 D9 D91 D92 u91 u92 u93 u94 c9 c91 c92 h9 tk9 hP9 F9 N9; (try k_extra "pt"); (try dsimp only); (try k_fold))))
  (k_with "subC" => (k_here; (with_reducible show wpAny _ _ (subscriptTail _ _ (Value.ref _) (Value.int _ _)) _ _ _); k_dflt (refine' item_litK ?k1 ?k2 ?k3 ?k4 ?_ ?k6; (case k1 => exact News.isList (by k_asm) (by k_mem)); (case k2 => decide); (case k3 => decide); (case k4 => rfl); (case k6 => with_unfolding_all rfl); k_whole)))
  (k_with "cc" => (k_here; (with_reducible show wpAny _ _ (call (Value.ref 236) _) _ _ _); k_dflt (
   refine' Cl.use (take_c _ _ _ _ _ ?m1 ?kp ?kq ?kr ?kt ?kz) ?k1 ?k2 ?k3 ?k4 ?k5 ?kK ?kd ?ku ?_;
   (case k1 => k_asm); (case k2 => k_asm); (case k3 => k_asm); (case k4 => k_asm); (case k5 => k_asm); (case kK => first | exact rfl | assumption);
   (case m1 => assumption); (case kp => first | assumption | omega); (case kq => first | assumption | omega); (case kr => first | assumption | omega); (case kt => first | assumption | omega); (case kz => exact intBits_le_64 (by omega) (by omega)); (case kd => k_extra "room"); (case ku => k_extra "units");
   intro r9 p9 q9 t9 t91 t92 h9 tk9 hr9 hq9 F9 N9; (try k_extra "take"); (try dsimp only); (try k_fold))))
  k_dflt cell_enter
  (k_with "take" => (rcases three (by assumption) with e9 | e9 | e9 <;> subst e9))
  repeat' (first | (k_unfold; (try dsimp only)) | ((with_reducible show wpAny _ _ (exec _ _) _ _ _); k_fold; walk1) | walk1 | (dsimp only; walk1) | fail "no step")
  all_goals exact hret _ _ _ _ _ _ _ (by simp) (by assumption) (by assumption) (by assumption)
abbrev tup2 (p q : Int) (t1 t2 : Tok) (c : Nat) : Obj := { cls := .type "tuple", data := .seq #[.int p t1, .int q t2] c }
def DrawOk (rim many : Int) : Prop := 0 < rim ∧ rim ≤ 40 ∧ 1 ≤ many ∧ many ≤ 10000000
abbrev ROneU (S : Addr) (o : Obj) (n : Nat) (led : Led) : Heap → Addr → (Str → Option Value) → Shared → (Value → Shared → Prop) → Prop :=
  fun h₀ L m s Q => ∀ (x : Addr) (rim many : Int) (t1 t2 : Tok) (c : Nat) (p q : Int) (s1 s2 : Tok) (h' : Heap) (tk' : Nat), DrawOk rim many → x ≠ S → (0 ≤ p ∧ 0 ≤ q ∧ q < 2147483647) → Fr h₀ L h' m →
    (∀ led', Upd S o (listOf #[.int p s1, .int q s2] n) led led' → News h₀ L h' ((x, ({ cls := .type "tuple", data := .seq #[.int rim t1, .int many t2] c } : Obj)) :: led')) → Q (.ref x) { s with heap := h', toks := tk' }
theorem one_e (w : World) (mean : ExcName → Option Value) (mg mb : Str → Option Value) (led : Led) {S T a1 a2 a3 : Addr} {p q : Int} {t1 t2 : Tok} {n nT : Nat} {r1 m1 r2 m2 r3 m3 : Int} {u1 u2 u3 u4 u5 u6 : Tok} {c1 c2 c3 : Nat}
    (hm : (S, listOf #[.int p t1, .int q t2] n) ∈ led) (hT : (T, listOf #[.ref a1, .ref a2, .ref a3] nT) ∈ led)
    (h1 : (a1, ({ cls := .type "tuple", data := .seq #[.int r1 u1, .int m1 u2] c1 } : Obj)) ∈ led)
    (h2 : (a2, ({ cls := .type "tuple", data := .seq #[.int r2 u3, .int m2 u4] c2 } : Obj)) ∈ led)
    (h3 : (a3, ({ cls := .type "tuple", data := .seq #[.int r3 u5, .int m3 u6] c3 } : Obj)) ∈ led)
    (hTS : T ≠ S) (n1 : a1 ≠ S) (n2 : a2 ≠ S) (n3 : a3 ≠ S) (d1 : DrawOk r1 m1) (d2 : DrawOk r2 m2) (d3 : DrawOk r3 m3)
    (hp : 0 ≤ p) (hq : 0 ≤ q) (hq2 : q < 2147483647) :
    Cl w mean mg mb 243 [.ref S, .ref T] led 4 (ROneU S (listOf #[.int p t1, .int q t2] n) n led) := by
  intro dp un gd cn cs a ccd cl outer A₀ base h₀ L m s Q E B F X N TT hk hd hu r
  have hne : ∀ x ∈ (T, listOf #[.ref a1, .ref a2, .ref a3] nT) :: led.filter (fun x => x.1 != S), x.1 ≠ S := by
    intro x hx
    rcases List.mem_cons.mp hx with rfl | hx
    · exact hTS
    · exact take_ne x hx
  have inF : ∀ {x : Addr} {o : Obj}, (x, o) ∈ led → x ≠ S → (x, o) ∈ led.filter (fun x => x.1 != S) := by
    intro x o hx hn
    exact List.mem_filter.mpr ⟨hx, by simpa using hn⟩
  have N1 : News h₀ L s.heap ((S, listOf #[.int p t1, .int q t2] n) :: (T, listOf #[.ref a1, .ref a2, .ref a3] nT) :: led.filter (fun x => x.1 != S)) := by
    intro y hy
    rcases List.mem_cons.mp hy with rfl | hy
    · exact N _ hm
    rcases List.mem_cons.mp hy with rfl | hy
    · exact N _ hT
    · exact N y (List.mem_filter.mp hy).1
  refine one_c w mean mg mb _ hne hp hq hq2 _ _ _ _ _ _ _ _ _ _ _ _ _ _ _ _ _ B F X N1 TT hk hd hu ?_
  intro x p' q' s1 s2 h' tk' hx hpq F' N'
  have N2 : News h₀ L h' ((S, listOf #[.int p' s1, .int q' s2] n) :: led.filter (fun x => x.1 != S)) := by
    intro y hy
    rcases List.mem_cons.mp hy with rfl | hy
    · exact N' _ (.head _)
    · exact N' y (.tail _ (.tail _ hy))
  have out : ∀ {rim many : Int} {v1 v2 : Tok} {c : Nat}, (x, ({ cls := .type "tuple", data := .seq #[.int rim v1, .int many v2] c } : Obj)) ∈ led → x ≠ S → DrawOk rim many → Q (.ref x) { s with heap := h', toks := tk' } := by
    intro rim many v1 v2 c hx hn hd
    refine r x rim many v1 v2 c p' q' s1 s2 h' tk' hd hn hpq F' ?_
    intro led' U y hy
    rcases List.mem_cons.mp hy with rfl | hy
    · exact N2 _ (.tail _ (inF hx hn))
    · exact take_in U N2 y hy
  rcases hx with rfl | rfl | rfl
  · exact out h1 n1 d1
  · exact out h2 n2 d2
  · exact out h3 n3 d3
theorem useUpd {U N : Led → Prop} {P : Prop} {led' : Led} (h : ∀ led', U led' → N led') (hu : U led') (k : N led' → P) : P := k (h _ hu)
theorem ints2 {vs : List Value} {p q : Int} (h : IntsAre vs [p, q]) : ∃ t1 t2, vs = [.int p t1, .int q t2] := by
  cases h with
  | cons _ t h => cases h with
    | cons _ t' h => cases h; exact ⟨_, _, rfl⟩
theorem way_bits {r rim many : Int} (h0 : 0 ≤ r) (h1 : r < 2 * rim + 1) (h2 : rim ≤ 40) (h3 : 1 ≤ many) (h4 : many ≤ 10000000) : intBits ((r - rim) * many) ≤ 64 := by
  have a1 : (r - rim) * many ≤ 40 * many := Int.mul_le_mul_of_nonneg_right (by omega) (by omega)
  have a2 : (-40) * many ≤ (r - rim) * many := Int.mul_le_mul_of_nonneg_right (by omega) (by omega)
  exact intBits_le_64 (by omega) (by omega)
theorem sn_ne {S : Rat} {a b : Int} (h : S = Rat.divInt (1 + a) (1 + b)) (ha : 0 ≤ a) (hb : 0 ≤ b) : S.num ≠ 0 := by
  intro h0
  have h1 := div_eq (by omega) h
  rw [h0, Int.zero_mul] at h1
  have h2 := S.den_pos
  have h3 : 0 < (1 + a) * (S.den : Int) := Int.mul_pos (by omega) (by omega)
  omega
theorem way_ne {x y : Int} (h : (x == 0 && y == 0) = false) : ¬ (x = 0 ∧ y = 0) := by
  rintro ⟨rfl, rfl⟩
  exact absurd h (by decide)
theorem st_ok {p q : Int} (h1 : 0 ≤ p) (h2 : 0 ≤ q) (h3 : q < 2147483647) : ∃ p' q' : Int, [p, q] = [p', q'] ∧ 0 ≤ p' ∧ 0 ≤ q' ∧ q' < 2147483647 := ⟨p, q, rfl, h1, h2, h3⟩
theorem st_open {vs : List Value} {items : List Int} (h : ∃ p q : Int, items = [p, q] ∧ 0 ≤ p ∧ 0 ≤ q ∧ q < 2147483647) (hi : IntsAre vs items) :
    ∃ (p q : Int) (t u : Tok), vs = [.int p t, .int q u] ∧ 0 ≤ p ∧ 0 ≤ q ∧ q < 2147483647 := by
  obtain ⟨p, q, rfl, h1, h2, h3⟩ := h
  obtain ⟨t, u, e⟩ := ints2 hi
  exact ⟨p, q, t, u, e, h1, h2, h3⟩
theorem sub_nil {α : Type} {n : List α} : ∀ p ∈ ([] : List α), p ∈ n := fun _ h => nomatch h
theorem sub_self {α : Type} {n : List α} : ∀ p ∈ n, p ∈ n := fun _ h => h
theorem sub_left {α : Type} {o n : List α} : ∀ p ∈ o, p ∈ o ++ n := fun _ h => List.mem_append.mpr (.inl h)
theorem sub_right {α : Type} {o n : List α} : ∀ p ∈ n, p ∈ o ++ n := fun _ h => List.mem_append.mpr (.inr h)
theorem sub_both {α : Type} {a : α} {l n : List α} (h : ∀ p ∈ l, p ∈ n) : ∀ p ∈ a :: l, p ∈ a :: n := by
  intro p hp
  rcases List.mem_cons.mp hp with rfl | hp
  · exact .head _
  · exact .tail _ (h p hp)
theorem sub_skip {α : Type} {a : α} {l n : List α} (h : ∀ p ∈ l, p ∈ n) : ∀ p ∈ l, p ∈ a :: n := fun p hp => .tail _ (h p hp)
theorem drop_top {h₀ : Heap} {L : Addr} {h : Heap} {a : Addr × Obj} {l : Led} (N : News h₀ L h (a :: l)) : News h₀ L h l := fun p hp => N p (.tail _ hp)
theorem drop_4 {h₀ : Heap} {L : Addr} {h : Heap} {a b c d e : Addr × Obj} {l : Led} (N : News h₀ L h (a :: b :: c :: d :: e :: l)) : News h₀ L h (a :: l) := by
  intro p hp
  rcases List.mem_cons.mp hp with rfl | hp
  · exact N _ (.head _)
  · exact N p (.tail _ (.tail _ (.tail _ (.tail _ (.tail _ hp)))))
theorem drop_all {h₀ : Heap} {L : Addr} {h : Heap} {l : Led} (_ : News h₀ L h l) : News h₀ L h [] := fun _ hp => nomatch hp
def LawDone (s₁ : Shared) (f : Flow) (s' : Shared) : Prop := ∃ (L : Addr) (m : Str → Option Value) (h' : Heap) (tk' : Nat), f = .ret (.bool true) ∧ s' = { s₁ with heap := h', toks := tk' } ∧ Fr s₁.heap L h' m
def NoE (_ : Value) (_ : Shared) : Prop := False
def WayDone (h₀ : Heap) (L S : Addr) (m : Str → Option Value) (led : Led) (s : Shared) (v : Value) (s' : Shared) : Prop :=
  ∃ (D : Addr) (x y : Int) (t1 t2 : Tok) (c : Nat) (h' : Heap) (tk' : Nat), v = .ref D ∧ s' = { s with heap := h', toks := tk' } ∧ ¬ (x = 0 ∧ y = 0) ∧ intBits x ≤ 64 ∧ intBits y ≤ 64 ∧ @LT.lt Nat _ S D ∧ Fr h₀ L h' m ∧
    News h₀ L h' ((D, ({ cls := .type "tuple", data := .seq #[.int x t1, .int y t2] c } : Obj)) :: led)
theorem join_way {M : Model} {A : Around} {E : Value → Shared → Prop} {t : Sem Value} {Q : Value → Shared → Prop} {s : Shared} {h₀ : Heap} {L S : Addr} {m : Str → Option Value} {o : Obj} {own : Led} {e1 e2 : Addr × Obj}
    (_ : Fr h₀ L s.heap m) (_ : News h₀ L s.heap (e1 :: e2 :: (S, o) :: own))
    (h1 : wpAny M A t (WayDone h₀ L S m ((S, o) :: own) s) E s)
    (h2 : ∀ (D : Addr) (x y : Int) (t1 t2 : Tok) (c : Nat) (h' : Heap) (tk' : Nat), ¬ (x = 0 ∧ y = 0) → intBits x ≤ 64 → intBits y ≤ 64 → @LT.lt Nat _ S D → Fr h₀ L h' m →
      News h₀ L h' ((D, ({ cls := .type "tuple", data := .seq #[.int x t1, .int y t2] c } : Obj)) :: (S, o) :: own) → Q (.ref D) { s with heap := h', toks := tk' }) : wpAny M A t Q E s := by
  refine wpAny_mono h1 ?_ (fun _ _ h => h)
  rintro v s' ⟨D, x, y, t1, t2, c, h', tk', rfl, rfl, hn, b1, b2, l, F, N⟩
  exact h2 D x y t1 t2 c h' tk' hn b1 b2 l F N
theorem ne_of_mem {D S : Addr} {o : Obj} {led : Led} (l : ∀ x ∈ led, x.1 < D) (m : (S, o) ∈ led) : D ≠ S := Nat.ne_of_gt (l _ m)
theorem lt_of_mem {D S : Addr} {o : Obj} {led : Led} (l : ∀ x ∈ led, x.1 < D) (m : (S, o) ∈ led) : @LT.lt Nat _ S D := l _ m
theorem take_bits {r top : Int} (h0 : 0 ≤ r) (h1 : r < top) (ht : top ≤ 1000) : intBits r ≤ 64 := intBits_le_64 (by omega) (by omega)
theorem take_bits1 {r top : Int} (h0 : 0 ≤ r) (h1 : r < top) (ht : top ≤ 1000) : intBits (1 + r) ≤ 64 := intBits_le_64 (by omega) (by omega)
theorem pos1 {r : Int} (h0 : 0 ≤ r) : 0 < 1 + r := by omega
theorem pos2 {r : Int} (h0 : 0 < r) : 0 < 2 * r + 1 := by omega
theorem rim_bits {r : Int} (h0 : 0 < r) (h1 : r ≤ 40) : intBits (2 * r + 1) ≤ 64 := intBits_le_64 (by omega) (by omega)
theorem many_bits {r : Int} (h0 : 1 ≤ r) (h1 : r ≤ 10000000) : intBits r ≤ 64 := intBits_le_64 (by omega) (by omega)
theorem many_ne {r : Int} (h0 : 1 ≤ r) : ¬ (r = 0 ∧ r = 0) := by omega
theorem fr_way {h₀ h : Heap} {L : Addr} {x : Str} {a b c d e : Option Value} {r : Str → Option Value} (F : Fr h₀ L h (fun y => if y = x then a else if y = x then b else if y = x then c else if y = x then d else if y = x then e else r y)) :
    Fr h₀ L h (fun y => if y = x then a else r y) := by
  have e9 : (fun y => if y = x then a else r y) = (fun y => if y = x then a else if y = x then b else if y = x then c else if y = x then d else if y = x then e else r y) := by
    funext y
    by_cases hy : y = x <;> simp only [hy, if_true, if_false]
  rw [e9]
  exact F
local macro_rules | `(tactic| walk_at "pyIter ref") => `(tactic| k_extra "iter")
local macro_rules | `(tactic| kst_in) => `(tactic| k_extra "kin")
local macro_rules | `(tactic| walk_at "InvEndN") => `(tactic| k_extra "iend")
local macro_rules | `(tactic| walk_at "eval IfExp") => `(tactic| k_extra "ifx")
local macro_rules | `(tactic| k_lt $_) => `(tactic| skip)
local macro_rules | `(tactic| k_ne) => `(tactic| k_extra "kne")
theorem fin_post (args : List WData) : (PySem.Challenge.rw_qz0058_01.row.claim).post args (.bool true) args = true := postW_of (by wrow_shape) (by wtm_val) (by w_fin)
theorem fin_raises (args : List WData) : ∀ c, (PySem.Challenge.rw_qz0058_01.row.claim).raises args c = false := by intro c; rfl
set_option maxHeartbeats 40000000 in
theorem law_walk : PySem.Challenge.rw_qz0058_01.Holds := hd (by
  k_go0
  refine' wpAny_mono (Q := LawDone _) (E := NoE) ?walk ?fin (fun _ _ h => False.elim h)
  case fin =>
    rintro _ _ ⟨L, m, h', tk', rfl, rfl, F⟩
    exact goodW_bool F (by assumption) (fin_raises _) (fin_post _)
  (all_goals try k_fold)
  k_with_none
  (k_with "bbm" => (first
  | with_reducible assumption
  | ((with_reducible apply bits_mnum) <;> bits_by_make)
  | ((with_reducible apply bits_mden) <;> bits_by_make)
  | ((with_reducible apply bits_anum) <;> bits_by_make)
  | ((with_reducible apply bits_aden) <;> bits_by_make)
  | ((with_reducible apply bits_snum) <;> bits_by_make)
  | ((with_reducible apply bits_sden) <;> bits_by_make)
  | ((with_reducible apply bits_nnum) <;> bits_by_make)
  | ((with_reducible apply bits_nden) <;> bits_by_make)
  | fail "bits"))
  (k_with "enter" => ((refine' code_def ?k1 ?k2 ?k3 ?k4 ?k5 ?kA ?kF ?kK ?k6 ?k7 ?k8 ?k9 ?kB ?_ ?c2 ?c3 ?c4 ?c5; (case kA => exact rfl); (case kF => exact rfl); (case kK => assumption); (case k1 => k_asm); (case k2 => k_asm); (case k3 => k_asm); (case k4 => k_asm); (case k5 => k_asm); (case k6 => k_is); (case k7 => k_is); (case k8 => k_extra "room"); (case k9 => first | exact BindsTo.of_eq rfl | exact binds_K (by k_in) rfl (by k_is) rfl rfl rfl); (case c5 => decide); (case kB => exact locs rfl); (case c2 => exact rfl); (case c3 => exact rfl); (case c4 => exact rfl); k_whole; intro g' L' h' FG' F' N' B' X' T'; (try dsimp only); (try k_lift B'); (try k_fold))))
  (k_with "room" => first
    | ((try simp only [depth_under_make, depth_under_kw, depth_in1, depth_deeper, depth_caller]); decide)
    | ((try simp only [depth_under_make, depth_under_kw, depth_in1, depth_deeper, depth_caller]); (try dsimp only [ktrTop]); refine Nat.lt_of_le_of_lt ?_ hdp; (try simp only [Nat.add_assoc]); exact Nat.add_le_add_left (by decide) _)
    | ktr_room)
  (k_with "units" => first
    | ((simp only [units_under_make, units_in1, units_deeper, Around.mark_units, units_caller]); (try dsimp only [ktrTop]); refine Nat.lt_of_le_of_lt ?_ hun; (try simp only [Nat.add_assoc]); exact Nat.add_le_add_left (by decide) _)
    | ((simp only [units_under_make, units_in1, units_deeper, Around.mark_units, units_caller]); rw [cLine_is]; decide)
    | ktr_units)
  (k_with "fdiv" => (k_dflt (refine' fdiv_k ?fa ?fb ?fc ?_; (case fa => omega); (case fb => bits_by_make); (case fc => decide); k_whole)))
  (k_with "subT" => (k_here; (with_reducible show wpAny _ _ (subscriptTail _ _ (Value.ref _) (Value.int _ _)) _ _ _); k_dflt (refine' item_tupleT ?t ?a ?b ?c ?d ?_; (case t => exact News.isTup (by k_asm) (by k_mem)); (case a => decide); (case b => decide); (case c => rfl); (case d => rfl); k_whole)))
  (k_with "cc" => (k_here; (with_reducible show wpAny _ _ (call (Value.ref 60) _) _ _ _); k_dflt (
   refine' Cl.use (gcd_c _ _ _ _ _ _ _ _ _ ?kp) ?k1 ?k2 ?k3 ?k4 ?k5 ?kK ?kd ?ku ?_;
   (case k1 => k_asm); (case k2 => k_asm); (case k3 => k_asm); (case k4 => k_asm); (case k5 => k_asm); (case kK => first | exact rfl | assumption);
   (case kp => first | assumption | omega); (case kd => k_extra "room"); (case ku => k_extra "units"); intro t9 h9 tk9 F9 N9; (try dsimp only); (try k_fold))))
  (k_with "cc" => (k_here; (with_reducible show wpAny _ _ (call (Value.ref 68) _) _ _ _); k_dflt (
   refine' Cl.use (frac_c _ _ _ _ _ _ _ _ _ ?kp ?kz ?kn) ?k1 ?k2 ?k3 ?k4 ?k5 ?kK ?kd ?ku ?_;
   (case k1 => k_asm); (case k2 => k_asm); (case k3 => k_asm); (case k4 => k_asm); (case k5 => k_asm); (case kK => first | exact rfl | assumption);
   (case kp => first | assumption | omega); (case kz => bits_by_make); (case kn => decide); (case kd => k_extra "room"); (case ku => k_extra "units"); intro D9 t9 u9 c9 h9 tk9 F9 N9 l1; (try k_lt l1); (try dsimp only); (try k_fold))))
  (k_with "cc" => (k_here; (with_reducible show wpAny _ _ (call (Value.ref 89) _) _ _ _); k_dflt (
   refine' Cl.use (times_c _ _ _ _ _ ?kx ?ky ?kP ?kQ ?kz1 ?kz2 ?kz3 ?kz4 ?kn) ?k1 ?k2 ?k3 ?k4 ?k5 ?kK ?kd ?ku ?_;
   (case k1 => k_asm); (case k2 => k_asm); (case k3 => k_asm); (case k4 => k_asm); (case k5 => k_asm); (case kK => first | exact rfl | assumption);
   (case kx => k_mem); (case ky => k_mem); (case kP => first | with_reducible exact ratIs_self _ | with_reducible exact ratIs_int _ | with_reducible assumption | fail "rat_is"); (case kQ => first | with_reducible exact ratIs_self _ | with_reducible exact ratIs_int _ | with_reducible assumption | fail "rat_is"); (case kz1 => bits_by_make); (case kz2 => bits_by_make); (case kz3 => bits_by_make); (case kz4 => bits_by_make);
   (case kn => decide); (case kd => k_extra "room"); (case ku => k_extra "units"); intro D9 t9 u9 c9 h9 tk9 F9 N9 l1; (try k_lt l1); (try dsimp only); (try k_fold))))
  (k_with "cc" => (k_here; (with_reducible show wpAny _ _ (call (Value.ref 75) _) _ _ _); k_dflt (
   refine' Cl.use (plus_c _ _ _ _ _ ?kx ?ky ?kP ?kQ ?kz1 ?kz2 ?kz3 ?kz4 ?kn) ?k1 ?k2 ?k3 ?k4 ?k5 ?kK ?kd ?ku ?_;
   (case k1 => k_asm); (case k2 => k_asm); (case k3 => k_asm); (case k4 => k_asm); (case k5 => k_asm); (case kK => first | exact rfl | assumption);
   (case kx => k_mem); (case ky => k_mem); (case kP => first | with_reducible exact ratIs_self _ | with_reducible exact ratIs_int _ | with_reducible assumption | fail "rat_is"); (case kQ => first | with_reducible exact ratIs_self _ | with_reducible exact ratIs_int _ | with_reducible assumption | fail "rat_is"); (case kz1 => bits_by_make); (case kz2 => bits_by_make); (case kz3 => bits_by_make); (case kz4 => bits_by_make);
   (case kn => decide); (case kd => k_extra "room"); (case ku => k_extra "units"); intro D9 t9 u9 c9 h9 tk9 F9 N9 l1; (try k_lt l1); (try dsimp only); (try k_fold))))
  (k_with "cc" => (k_here; (with_reducible show wpAny _ _ (call (Value.ref 82) _) _ _ _); k_dflt (
   refine' Cl.use (minus_c _ _ _ _ _ ?kx ?ky ?kP ?kQ ?kz1 ?kz2 ?kz3 ?kz4 ?kn) ?k1 ?k2 ?k3 ?k4 ?k5 ?kK ?kd ?ku ?_;
   (case k1 => k_asm); (case k2 => k_asm); (case k3 => k_asm); (case k4 => k_asm); (case k5 => k_asm); (case kK => first | exact rfl | assumption);
   (case kx => k_mem); (case ky => k_mem); (case kP => first | with_reducible exact ratIs_self _ | with_reducible exact ratIs_int _ | with_reducible assumption | fail "rat_is"); (case kQ => first | with_reducible exact ratIs_self _ | with_reducible exact ratIs_int _ | with_reducible assumption | fail "rat_is"); (case kz1 => bits_by_make); (case kz2 => bits_by_make); (case kz3 => bits_by_make); (case kz4 => bits_by_make);
   (case kn => decide); (case kd => k_extra "room"); (case ku => k_extra "units"); intro D9 t9 u9 c9 h9 tk9 F9 N9 l1; (try k_lt l1); (try dsimp only); (try k_fold))))
  (k_with "cc" => (k_here; (with_reducible show wpAny _ _ (call (Value.ref 96) _) _ _ _); k_dflt (
   refine' Cl.use (neg_c _ _ _ _ _ ?kx ?kP) ?k1 ?k2 ?k3 ?k4 ?k5 ?kK ?kd ?ku ?_;
   (case k1 => k_asm); (case k2 => k_asm); (case k3 => k_asm); (case k4 => k_asm); (case k5 => k_asm); (case kK => first | exact rfl | assumption);
   (case kx => k_mem); (case kP => first | with_reducible exact ratIs_self _ | with_reducible exact ratIs_int _ | with_reducible assumption | fail "rat_is");
   (case kd => k_extra "room"); (case ku => k_extra "units"); intro D9 t9 u9 c9 h9 tk9 F9 N9 l1; (try k_lt l1); (try dsimp only); (try k_fold))))
  (k_with "cc" => (k_here; (with_reducible show wpAny _ _ (call (Value.ref 68) _) _ _ _); k_dflt (
   refine' Cl.use (frac_e _ _ _ _ _ _ _ _ _ ?kp ?ky ?kz ?kn) ?k1 ?k2 ?k3 ?k4 ?k5 ?kK ?kd ?ku ?_;
   (case k1 => k_asm); (case k2 => k_asm); (case k3 => k_asm); (case k4 => k_asm); (case k5 => k_asm); (case kK => first | exact rfl | assumption);
   (case kp => first | with_reducible assumption | omega); (case ky => bits_by_make); (case kz => bits_by_make); (case kn => decide); (case kd => k_extra "room"); (case ku => k_extra "units"); intro R9 hS9 D9 t9 u9 c9 h9 tk9 F9 N9 l1; (obtain ⟨hR9, hn9, hd9⟩ := hS9); (try k_extra "frac"); (try k_lt l1); (try dsimp only); (try k_fold))))
  (k_with "cc" => (k_here; (with_reducible show wpAny _ _ (call (Value.ref 89) _) _ _ _); k_dflt (
   refine' Cl.use (times_e _ _ _ _ _ ?kx ?ky ?kP ?kQ ?kz1 ?kz2 ?kz3 ?kz4 ?kn) ?k1 ?k2 ?k3 ?k4 ?k5 ?kK ?kd ?ku ?_;
   (case k1 => k_asm); (case k2 => k_asm); (case k3 => k_asm); (case k4 => k_asm); (case k5 => k_asm); (case kK => first | exact rfl | assumption);
   (case kx => k_mem); (case ky => k_mem); (case kP => first | with_reducible exact ratIs_self _ | with_reducible exact ratIs_int _ | with_reducible assumption | fail "rat_is"); (case kQ => first | with_reducible exact ratIs_self _ | with_reducible exact ratIs_int _ | with_reducible assumption | fail "rat_is"); (case kz1 => bits_by_make); (case kz2 => bits_by_make); (case kz3 => bits_by_make); (case kz4 => bits_by_make);
   (case kn => decide); (case kd => k_extra "room"); (case ku => k_extra "units"); intro R9 hS9 D9 t9 u9 c9 h9 tk9 F9 N9 l1; (obtain ⟨hR9, hn9, hd9⟩ := hS9); (try k_extra "ops"); (try k_lt l1); (try dsimp only); (try k_fold))))
  (k_with "cc" => (k_here; (with_reducible show wpAny _ _ (call (Value.ref 75) _) _ _ _); k_dflt (
   refine' Cl.use (plus_e _ _ _ _ _ ?kx ?ky ?kP ?kQ ?kz1 ?kz2 ?kz3 ?kz4 ?kn) ?k1 ?k2 ?k3 ?k4 ?k5 ?kK ?kd ?ku ?_;
   (case k1 => k_asm); (case k2 => k_asm); (case k3 => k_asm); (case k4 => k_asm); (case k5 => k_asm); (case kK => first | exact rfl | assumption);
   (case kx => k_mem); (case ky => k_mem); (case kP => first | with_reducible exact ratIs_self _ | with_reducible exact ratIs_int _ | with_reducible assumption | fail "rat_is"); (case kQ => first | with_reducible exact ratIs_self _ | with_reducible exact ratIs_int _ | with_reducible assumption | fail "rat_is"); (case kz1 => bits_by_make); (case kz2 => bits_by_make); (case kz3 => bits_by_make); (case kz4 => bits_by_make);
   (case kn => decide); (case kd => k_extra "room"); (case ku => k_extra "units"); intro R9 hS9 D9 t9 u9 c9 h9 tk9 F9 N9 l1; (obtain ⟨hR9, hn9, hd9⟩ := hS9); (try k_extra "ops"); (try k_lt l1); (try dsimp only); (try k_fold))))
  (k_with "cc" => (k_here; (with_reducible show wpAny _ _ (call (Value.ref 82) _) _ _ _); k_dflt (
   refine' Cl.use (minus_e _ _ _ _ _ ?kx ?ky ?kP ?kQ ?kz1 ?kz2 ?kz3 ?kz4 ?kn) ?k1 ?k2 ?k3 ?k4 ?k5 ?kK ?kd ?ku ?_;
   (case k1 => k_asm); (case k2 => k_asm); (case k3 => k_asm); (case k4 => k_asm); (case k5 => k_asm); (case kK => first | exact rfl | assumption);
   (case kx => k_mem); (case ky => k_mem); (case kP => first | with_reducible exact ratIs_self _ | with_reducible exact ratIs_int _ | with_reducible assumption | fail "rat_is"); (case kQ => first | with_reducible exact ratIs_self _ | with_reducible exact ratIs_int _ | with_reducible assumption | fail "rat_is"); (case kz1 => bits_by_make); (case kz2 => bits_by_make); (case kz3 => bits_by_make); (case kz4 => bits_by_make);
   (case kn => decide); (case kd => k_extra "room"); (case ku => k_extra "units"); intro R9 hS9 D9 t9 u9 c9 h9 tk9 F9 N9 l1; (obtain ⟨hR9, hn9, hd9⟩ := hS9); (try k_extra "ops"); (try k_lt l1); (try dsimp only); (try k_fold))))
  (k_with "cc" => (k_here; (with_reducible show wpAny _ _ (call (Value.ref 96) _) _ _ _); k_dflt (
   refine' Cl.use (neg_e _ _ _ _ _ ?kx ?kP ?kz1 ?kz2) ?k1 ?k2 ?k3 ?k4 ?k5 ?kK ?kd ?ku ?_;
   (case k1 => k_asm); (case k2 => k_asm); (case k3 => k_asm); (case k4 => k_asm); (case k5 => k_asm); (case kK => first | exact rfl | assumption);
   (case kx => k_mem); (case kP => first | with_reducible exact ratIs_self _ | with_reducible exact ratIs_int _ | with_reducible assumption | fail "rat_is"); (case kz1 => bits_by_make); (case kz2 => bits_by_make);
   (case kd => k_extra "room"); (case ku => k_extra "units"); intro R9 hS9 D9 t9 u9 c9 h9 tk9 F9 N9 l1; (obtain ⟨hR9, hn9, hd9⟩ := hS9); (try k_extra "ops"); (try k_lt l1); (try dsimp only); (try k_fold))))
  (k_with "bbm" => (k_extra "bits"))
  (k_with "fdiv" => (k_dflt (refine' fdiv_k ?fa ?fb ?fc ?_; (case fa => exact fr_ne (by assumption) (by assumption) (by assumption) (by assumption) (by assumption)); (case fb => exact fr_bits (by assumption) (by assumption) (by assumption) (by assumption) (by assumption) (by assumption)); (case fc => decide); k_whole)))
  (k_with "cc" => (k_here; (with_reducible show wpAny _ _ (call (Value.ref 103) _) _ _ _); k_dflt (
   refine' Cl.use (root_c _ _ _ _ _ _ _ ?kp ?kz ?kn) ?k1 ?k2 ?k3 ?k4 ?k5 ?kK ?kd ?ku ?_;
   (case k1 => k_asm); (case k2 => k_asm); (case k3 => k_asm); (case k4 => k_asm); (case k5 => k_asm); (case kK => first | exact rfl | assumption);
   (case kp => first | with_reducible exact sq2_nn _ _ | with_reducible exact sqp_nn _ _ | omega); (case kz => bits_by_make); (case kn => decide); (case kd => k_extra "room"); (case ku => k_extra "units"); intro r9 t9 h9 tk9 hS9 F9 N9; (try k_extra "root"); (try dsimp only); (try k_fold))))
  (k_with "cc" => (k_here; (with_reducible show wpAny _ _ (call (Value.ref 250) _) _ _ _); k_dflt (
   refine' Cl.use (lfrac_e _ _ _ _ _ _ _ _ _ ?kp ?ky ?kz ?kn) ?k1 ?k2 ?k3 ?k4 ?k5 ?kK ?kd ?ku ?_;
   (case k1 => k_asm); (case k2 => k_asm); (case k3 => k_asm); (case k4 => k_asm); (case k5 => k_asm); (case kK => first | exact rfl | assumption);
   (case kp => first | with_reducible assumption | k_extra "pos" | omega); (case ky => bits_by_make); (case kz => bits_by_make); (case kn => decide); (case kd => k_extra "room"); (case ku => k_extra "units"); intro R9 hS9 D9 t9 u9 c9 h9 tk9 F9 N9 l1; (obtain ⟨hR9, hn9, hd9⟩ := hS9); (try k_extra "lfrac"); (try k_lt l1); (try dsimp only); (try k_fold))))
  (k_with "cc" => (k_here; (with_reducible show wpAny _ _ (call (Value.ref 257) _) _ _ _); k_dflt (
   refine' Cl.use (near_c _ _ _ _ _ _ _ _ _ ?kp) ?k1 ?k2 ?k3 ?k4 ?k5 ?kK ?kd ?ku ?_;
   (case k1 => k_asm); (case k2 => k_asm); (case k3 => k_asm); (case k4 => k_asm); (case k5 => k_asm); (case kK => first | exact rfl | assumption);
   (case kp => first | assumption | k_extra "near"); (case kd => k_extra "room"); (case ku => k_extra "units"); intro h9 tk9 F9 N9; (try dsimp only); (try k_fold))))
  (k_with "cc" => (k_here; (with_reducible show wpAny _ _ (call (Value.ref 211) _) _ _ _); k_dflt (
   refine' Cl.use (side_e _ _ _ _ _ ?m1 ?m2 ?hX ?hY ?y1 ?y2 ?y3 ?y4 ?y5 ?y6) ?k1 ?k2 ?k3 ?k4 ?k5 ?kK ?kd ?ku ?_;
   (case k1 => k_asm); (case k2 => k_asm); (case k3 => k_asm); (case k4 => k_asm); (case k5 => k_asm); (case kK => first | exact rfl | assumption);
   (case m1 => k_mem); (case m2 => k_mem); (case hX => assumption); (case hY => assumption); (case y1 => assumption); (case y2 => assumption); (case y3 => k_extra "b70"); (case y4 => k_extra "b70"); (case y5 => k_extra "b70"); (case y6 => k_extra "b70"); (case kd => k_extra "room"); (case ku => k_extra "units");
   intro r9 I9 d9 wy9 k91 k92 k93 k94 u91 u92 u93 c9 h9 tk9 hS9 F9 N9; (try k_extra "side"); (try dsimp only); (try k_fold))))
  (k_with "cc" => (k_here; (with_reducible show wpAny _ _ (call (Value.ref 208) _) _ _ _); k_dflt (
   refine' Cl.use (trn_c _ _ _ _ _ ?m1 ?m2 ?m3 ?kx ?y1 ?y2) ?k1 ?k2 ?k3 ?k4 ?k5 ?kK ?kd ?ku ?_;
   (case k1 => k_asm); (case k2 => k_asm); (case k3 => k_asm); (case k4 => k_asm); (case k5 => k_asm); (case kK => first | exact rfl | assumption);
   (case m1 => k_mem); (case m2 => k_mem); (case m3 => k_mem); (case kx => assumption); (case y1 => assumption); (case y2 => assumption); (case kd => k_extra "room"); (case ku => k_extra "units");
   intro r9 C9 S9 D9 D91 D92 u91 u92 u93 u94 c9 c91 c92 h9 tk9 hS9 F9 N9; (obtain ⟨hT9, x1, x2, x3, x4⟩ := hS9); (try k_extra "trn"); (try dsimp only); (try k_fold))))
  (k_with "cc" => (k_here; (with_reducible show wpAny _ _ (call (Value.ref 162) _) _ _ _); k_dflt (
   refine' Cl.use (minit_c _ _ _ _ _) ?k1 ?k2 ?k3 ?k4 ?k5 ?kK ?kd ?ku ?_;
   (case k1 => k_asm); (case k2 => k_asm); (case k3 => k_asm); (case k4 => k_asm); (case k5 => k_asm); (case kK => first | exact rfl | assumption);
   (case kd => k_extra "room"); (case ku => k_extra "units");
   intro M9 d9 k91 k92 k93 k94 k95 k96 h9 tk9 F9 N9; (try dsimp only); (try k_fold))))
  (k_with "cc" => (k_here; (with_reducible show wpAny _ _ (call (Value.ref 222) _) _ _ _); k_dflt (
   refine' Cl.use (tmat_c _ _ _ _ _ ?m1 ?m2 ?mH ?m3 ?m4 ?m5 ?m6 ?m7 ?m8 ?z1 ?z2 ?z3 ?z4 ?z5 ?z6 ?z7 ?z8 ?z9 ?z10 ?z11 ?z12) ?k1 ?k2 ?k3 ?k4 ?k5 ?kK ?kd ?ku ?_;
   (case k1 => k_asm); (case k2 => k_asm); (case k3 => k_asm); (case k4 => k_asm); (case k5 => k_asm); (case kK => first | exact rfl | assumption);
   (case m1 => k_mem); (case m2 => k_mem); (case m3 => k_mem); (case m4 => k_mem); (case m5 => k_mem); (case m6 => k_mem); (case m7 => k_mem); (case m8 => k_mem); (case mH => first | with_reducible exact ratIs_self _ | with_reducible exact ratIs_int _ | with_reducible assumption | fail "rat_is");
   (case z1 => refine Nat.le_trans (by assumption) (by decide)); (case z2 => refine Nat.le_trans (by assumption) (by decide)); (case z3 => refine Nat.le_trans (by assumption) (by decide)); (case z4 => refine Nat.le_trans (by assumption) (by decide)); (case z5 => refine Nat.le_trans (by assumption) (by decide)); (case z6 => refine Nat.le_trans (by assumption) (by decide)); (case z7 => refine Nat.le_trans (by assumption) (by decide)); (case z8 => refine Nat.le_trans (by assumption) (by decide)); (case z9 => refine Nat.le_trans (by assumption) (by decide)); (case z10 => refine Nat.le_trans (by assumption) (by decide)); (case z11 => refine Nat.le_trans (by assumption) (by decide)); (case z12 => refine Nat.le_trans (by assumption) (by decide));
   (case kd => k_extra "room"); (case ku => k_extra "units");
   intro A9 B9 C9 D9 E9 G9 M9 d9 a91 a92 a93 a94 a95 a96 k91 k92 k93 k94 k95 k96 t91 t92 t93 t94 t95 t96 u91 u92 u93 u94 u95 u96 c91 c92 c93 c94 c95 c96 h9 tk9 hS9 F9 N9;
   (obtain ⟨hM9, ⟨x1, x2⟩, ⟨x3, x4⟩, ⟨x5, x6⟩, ⟨x7, x8⟩, ⟨x9, x10⟩, ⟨x11, x12⟩⟩ := hS9); (try k_extra "tmat"); (try dsimp only); (try k_fold))))
  (k_with "cc" => (k_here; (with_reducible show wpAny _ _ (call (Value.ref 152) _) _ _ _); k_dflt (
   refine' Cl.use (det_c _ _ _ _ _ ?mM ?md ?m1 ?m2 ?m3 ?m4 ?z1 ?w1 ?z2 ?w2 ?z3 ?w3 ?z4 ?w4) ?k1 ?k2 ?k3 ?k4 ?k5 ?kK ?kd ?ku ?_;
   (case k1 => k_asm); (case k2 => k_asm); (case k3 => k_asm); (case k4 => k_asm); (case k5 => k_asm); (case kK => first | exact rfl | assumption);
   (case mM => k_mem); (case md => k_mem); (case m1 => k_mem); (case m2 => k_mem); (case m3 => k_mem); (case m4 => k_mem);
   (case z1 => assumption); (case w1 => assumption); (case z2 => assumption); (case w2 => assumption); (case z3 => assumption); (case w3 => assumption); (case z4 => assumption); (case w4 => assumption); (case kd => k_extra "room"); (case ku => k_extra "units");
   intro R9 D9 t9 u9 c9 h9 tk9 hDet F9 N9; (try k_extra "det"); (try dsimp only); (try k_fold))))
  (k_with "cc" => (k_here; (with_reducible show wpAny _ _ (call (Value.ref 138) _) _ _ _); k_dflt (
   refine' Cl.use (pt_c _ _ _ _ _ ?mM ?md ?m1 ?m2 ?m3 ?m4 ?m5 ?m6 ?n0 ?nx ?ny ?hH ?hG ?z1 ?w1 ?z2 ?w2 ?z3 ?w3 ?z4 ?w4 ?z5 ?w5 ?z6 ?w6 ?v1 ?v2 ?v3 ?v4) ?k1 ?k2 ?k3 ?k4 ?k5 ?kK ?kd ?ku ?_;
   (case k1 => k_asm); (case k2 => k_asm); (case k3 => k_asm); (case k4 => k_asm); (case k5 => k_asm); (case kK => first | exact rfl | assumption);
   (case mM => k_mem); (case md => k_mem); (case m1 => k_mem); (case m2 => k_mem); (case m3 => k_mem); (case m4 => k_mem); (case m5 => k_mem); (case m6 => k_mem); (case n0 => k_mem); (case nx => k_mem); (case ny => k_mem);
   (case hH => first | with_reducible exact ratIs_self _ | with_reducible exact ratIs_int _ | with_reducible assumption | fail "rat_is"); (case hG => first | with_reducible exact ratIs_self _ | with_reducible exact ratIs_int _ | with_reducible assumption | fail "rat_is");
   (case z1 => assumption); (case w1 => assumption); (case z2 => assumption); (case w2 => assumption); (case z3 => assumption); (case w3 => assumption); (case z4 => assumption); (case w4 => assumption); (case z5 => assumption); (case w5 => assumption); (case z6 => assumption); (case w6 => assumption);
   (case v1 => first | decide | exact Nat.le_trans (by assumption) (by decide)); (case v2 => first | decide | exact Nat.le_trans (by assumption) (by decide)); (case v3 => first | decide | exact Nat.le_trans (by assumption) (by decide)); (case v4 => first | decide | exact Nat.le_trans (by assumption) (by decide)); (case kd => k_extra "room"); (case ku => k_extra "units");
   intro X9 Y9 D9 D91 D92 u91 u92 u93 u94 c9 c91 c92 h9 tk9 hP9 F9 N9; (try k_extra "pt"); (try dsimp only); (try k_fold))))
  (k_with "subC" => (k_here; (with_reducible show wpAny _ _ (subscriptTail _ _ (Value.ref _) (Value.int _ _)) _ _ _); k_dflt (refine' item_litK ?k1 ?k2 ?k3 ?k4 ?_ ?k6; (case k1 => exact News.isList (by k_asm) (by k_mem)); (case k2 => decide); (case k3 => decide); (case k4 => rfl); (case k6 => with_unfolding_all rfl); k_whole)))
  (k_with "cc" => (k_here; (with_reducible show wpAny _ _ (call (Value.ref 236) _) _ _ _); k_dflt (
   refine' Cl.use (take_c _ _ _ _ _ ?m1 ?kp ?kq ?kr ?kt ?kz) ?k1 ?k2 ?k3 ?k4 ?k5 ?kK ?kd ?ku ?_;
   (case k1 => k_asm); (case k2 => k_asm); (case k3 => k_asm); (case k4 => k_asm); (case k5 => k_asm); (case kK => first | exact rfl | assumption);
   (case m1 => assumption); (case kp => first | assumption | omega); (case kq => first | assumption | omega); (case kr => first | assumption | omega); (case kt => first | assumption | omega); (case kz => exact intBits_le_64 (by omega) (by omega)); (case kd => k_extra "room"); (case ku => k_extra "units");
   intro r9 p9 q9 t9 t91 t92 h9 tk9 hr9 hq9 F9 N9; (try k_extra "take"); (try dsimp only); (try k_fold))))
  (k_with "cc" => (k_here; (with_reducible show wpAny _ _ (call (Value.ref 236) _) _ _ _); k_dflt (
   refine' Cl.use (take_e _ _ _ _ _ ?km ?kp ?kq ?kr ?kt ?kz) ?k1 ?k2 ?k3 ?k4 ?k5 ?kK ?kd ?ku ?_;
   (case k1 => k_asm); (case k2 => k_asm); (case k3 => k_asm); (case k4 => k_asm); (case k5 => k_asm); (case kK => first | exact rfl | assumption);
   (case kd => k_extra "room"); (case ku => k_extra "units");
   (case km => k_mem); (case kp => first | assumption | omega); (case kq => first | assumption | omega); (case kr => first | assumption | omega); (case kt => first | assumption | decide | exact pos2 (by assumption) | omega); (case kz => first | decide | exact rim_bits (by assumption) (by assumption) | exact intBits_le_64 (by omega) (by omega));
   intro r9 p9 q9 t9 t91 t92 h9 tk9 hr9 hq9 F9 NU9; (obtain ⟨hr91, hr92⟩ := hr9); (obtain ⟨hq91, hq92, hq93⟩ := hq9); (refine' useUpd NU9 ?U9 ?_; (case U9 => k_upd)); intro N9; clear NU9; (try dsimp only); (try k_fold))))
  (k_with "cc" => (k_here; (with_reducible show wpAny _ _ (call (Value.ref 243) _) _ _ _); (try (obtain ⟨p8, q8, t8, u8, e8, hq81, hq82, hq83⟩ := st_open (by assumption) (by assumption); subst e8)); k_dflt (
   refine' Cl.use (one_e _ _ _ _ _ ?km ?kT ?e1 ?e2 ?e3 ?nS ?n1 ?n2 ?n3 ?d1 ?d2 ?d3 ?kp ?kq ?kr) ?k1 ?k2 ?k3 ?k4 ?k5 ?kK ?kd ?ku ?_;
   (case k1 => k_asm); (case k2 => k_asm); (case k3 => k_asm); (case k4 => k_asm); (case k5 => k_asm); (case kK => first | exact rfl | assumption);
   (case kd => k_extra "room"); (case ku => k_extra "units");
   (case km => k_mem); (case kT => k_mem); (case e1 => k_mem); (case e2 => k_mem); (case e3 => k_mem); (case nS => k_ne); (case n1 => k_ne); (case n2 => k_ne); (case n3 => k_ne);
   (case d1 => exact ⟨by decide, by decide, by decide, by decide⟩); (case d2 => exact ⟨by decide, by decide, by decide, by decide⟩); (case d3 => exact ⟨by decide, by decide, by decide, by decide⟩); (case kp => first | assumption | omega); (case kq => first | assumption | omega); (case kr => first | assumption | omega);
   intro x9 rim9 many9 t1 t2 c9 p9 q9 t91 t92 h9 tk9 hd9 hx9 hq9 F9 NU9; (obtain ⟨hd91, hd92, hd93, hd94⟩ := hd9); (obtain ⟨hq91, hq92, hq93⟩ := hq9); (refine' useUpd NU9 ?U9 ?_; (case U9 => k_upd)); intro N9; clear NU9; (replace N9 := drop_4 N9); (try dsimp only); (try k_fold))))
  (k_with "cc" => (k_here; (with_reducible show wpAny _ _ (call (Value.ref 229) _) _ _ _); k_dflt (
   refine' Cl.use (pool_c _ _ _ _ _ ?kI ?kl ?ka ?kb) ?k1 ?k2 ?k3 ?k4 ?k5 ?kK ?kd ?ku ?_;
   (case k1 => k_asm); (case k2 => k_asm); (case k3 => k_asm); (case k4 => k_asm); (case k5 => k_asm); (case kK => first | exact rfl | assumption);
   (case kd => k_extra "room"); (case ku => k_extra "units");
   (case kI => assumption); (case kl => l_fit); (case ka => first | assumption | omega); (case kb => first | assumption | omega);
   refine' And.intro ?kL ?_; (case kL => assumption); intro p9 q9 t91 t92 D9 c9 h9 tk9 hq9 F9 N9 l1; (obtain ⟨hq91, hq92, hq93⟩ := hq9); (try k_lt l1); (try dsimp only); (try k_fold))))
  (k_with "cc" => (k_here; (with_reducible show wpAny _ _ (call (Value.ref 264) _) _ _ _); k_dflt (
   refine' Cl.use (turn_c _ _ _ _ _ ?m1 ?m2 ?kx ?b1 ?b2 ?b3 ?b4) ?k1 ?k2 ?k3 ?k4 ?k5 ?kK ?kd ?ku ?_;
   (case k1 => k_asm); (case k2 => k_asm); (case k3 => k_asm); (case k4 => k_asm); (case k5 => k_asm); (case kK => first | exact rfl | assumption);
   (case kd => k_extra "room"); (case ku => k_extra "units");
   (case m1 => k_mem); (case m2 => k_mem); (case kx => first | assumption | exact way_ne (by assumption) | omega); (case b1 => first | assumption | decide | exact take_bits (by assumption) (by assumption) (by decide) | exact way_bits (by assumption) (by assumption) (by assumption) (by assumption) (by assumption) | (refine Nat.le_trans (by assumption) (by decide)) | exact intBits_le_64 (by omega) (by omega)); (case b2 => first | assumption | decide | exact take_bits (by assumption) (by assumption) (by decide) | exact way_bits (by assumption) (by assumption) (by assumption) (by assumption) (by assumption) | (refine Nat.le_trans (by assumption) (by decide)) | exact intBits_le_64 (by omega) (by omega)); (case b3 => first | assumption | decide | exact take_bits (by assumption) (by assumption) (by decide) | exact way_bits (by assumption) (by assumption) (by assumption) (by assumption) (by assumption) | (refine Nat.le_trans (by assumption) (by decide)) | exact intBits_le_64 (by omega) (by omega)); (case b4 => first | assumption | decide | exact take_bits (by assumption) (by assumption) (by decide) | exact way_bits (by assumption) (by assumption) (by assumption) (by assumption) (by assumption) | (refine Nat.le_trans (by assumption) (by decide)) | exact intBits_le_64 (by omega) (by omega));
   intro h9 tk9 F9 N9; (replace N9 := drop_top N9); (try dsimp only); (try k_fold))))
  (k_with "cc" => (k_here; (with_reducible show wpAny _ _ (call (Value.ref 271) _) _ _ _); k_dflt (
   refine' Cl.use (mat_c _ _ _ _ _ ?m1 ?m2 ?m3 ?m4 ?m5 ?m6 ?q1 ?q2 ?q3 ?q4 ?kx ?ks ?b1 ?b2 ?b3 ?b4 ?b5 ?b6 ?b7 ?b8 ?b9 ?b10) ?k1 ?k2 ?k3 ?k4 ?k5 ?kK ?kd ?ku ?_;
   (case k1 => k_asm); (case k2 => k_asm); (case k3 => k_asm); (case k4 => k_asm); (case k5 => k_asm); (case kK => first | exact rfl | assumption);
   (case kd => k_extra "room"); (case ku => k_extra "units");
   (case m1 => k_mem); (case m2 => k_mem); (case m3 => k_mem); (case m4 => k_mem); (case m5 => k_mem); (case m6 => k_mem); (case q1 => first | with_reducible exact ratIs_self _ | with_reducible exact ratIs_int _ | with_reducible assumption | fail "rat_is"); (case q2 => first | with_reducible exact ratIs_self _ | with_reducible exact ratIs_int _ | with_reducible assumption | fail "rat_is"); (case q3 => first | with_reducible exact ratIs_self _ | with_reducible exact ratIs_int _ | with_reducible assumption | fail "rat_is"); (case q4 => first | with_reducible exact ratIs_self _ | with_reducible exact ratIs_int _ | with_reducible assumption | fail "rat_is"); (case kx => first | assumption | exact way_ne (by assumption) | omega); (case ks => first | assumption | k_extra "sn"); (case b1 => first | assumption | decide | exact take_bits (by assumption) (by assumption) (by decide) | exact way_bits (by assumption) (by assumption) (by assumption) (by assumption) (by assumption) | (refine Nat.le_trans (by assumption) (by decide)) | exact intBits_le_64 (by omega) (by omega)); (case b2 => first | assumption | decide | exact take_bits (by assumption) (by assumption) (by decide) | exact way_bits (by assumption) (by assumption) (by assumption) (by assumption) (by assumption) | (refine Nat.le_trans (by assumption) (by decide)) | exact intBits_le_64 (by omega) (by omega)); (case b3 => first | assumption | decide | exact take_bits (by assumption) (by assumption) (by decide) | exact way_bits (by assumption) (by assumption) (by assumption) (by assumption) (by assumption) | (refine Nat.le_trans (by assumption) (by decide)) | exact intBits_le_64 (by omega) (by omega)); (case b4 => first | assumption | decide | exact take_bits (by assumption) (by assumption) (by decide) | exact way_bits (by assumption) (by assumption) (by assumption) (by assumption) (by assumption) | (refine Nat.le_trans (by assumption) (by decide)) | exact intBits_le_64 (by omega) (by omega)); (case b5 => first | assumption | decide | exact take_bits (by assumption) (by assumption) (by decide) | exact way_bits (by assumption) (by assumption) (by assumption) (by assumption) (by assumption) | (refine Nat.le_trans (by assumption) (by decide)) | exact intBits_le_64 (by omega) (by omega)); (case b6 => first | assumption | decide | exact take_bits (by assumption) (by assumption) (by decide) | exact way_bits (by assumption) (by assumption) (by assumption) (by assumption) (by assumption) | (refine Nat.le_trans (by assumption) (by decide)) | exact intBits_le_64 (by omega) (by omega)); (case b7 => first | assumption | decide | exact take_bits (by assumption) (by assumption) (by decide) | exact way_bits (by assumption) (by assumption) (by assumption) (by assumption) (by assumption) | (refine Nat.le_trans (by assumption) (by decide)) | exact intBits_le_64 (by omega) (by omega)); (case b8 => first | assumption | decide | exact take_bits (by assumption) (by assumption) (by decide) | exact way_bits (by assumption) (by assumption) (by assumption) (by assumption) (by assumption) | (refine Nat.le_trans (by assumption) (by decide)) | exact intBits_le_64 (by omega) (by omega)); (case b9 => first | assumption | decide | exact take_bits (by assumption) (by assumption) (by decide) | exact way_bits (by assumption) (by assumption) (by assumption) (by assumption) (by assumption) | (refine Nat.le_trans (by assumption) (by decide)) | exact intBits_le_64 (by omega) (by omega)); (case b10 => first | assumption | decide | exact take_bits (by assumption) (by assumption) (by decide) | exact way_bits (by assumption) (by assumption) (by assumption) (by assumption) (by assumption) | (refine Nat.le_trans (by assumption) (by decide)) | exact intBits_le_64 (by omega) (by omega));
   intro h9 tk9 F9 N9; (try dsimp only); (try k_fold))))
  (k_with "kin" => ((try dsimp only); with_reducible (repeat (first | exact sub_nil | exact sub_left | exact sub_right | exact sub_self | refine sub_both ?_ | refine sub_skip ?_))))
  (k_with "iend" => (k_dflt (first
  | (refine' kst_end ⟨_, _, _⟩ ?F ?N ?hn ?ho ?ha ?hf ?hk ?hr ?hp; (case F => assumption); (case N => assumption); (case hn => kst_in); (case ho => kst_in); (case ha => exact rfl); (case hf => exact IntsAre.cons _ _ (IntsAre.cons _ _ IntsAre.nil)); (case hk => kst_all); (case hr => kst_same); (case hp => exact st_ok (by assumption) (by assumption) (by assumption)))
  | (refine' kst_end () ?F ?N ?hn ?ho ?ha ?hf ?hk ?hr ?hp; (case F => assumption); (case N => assumption); (case hn => kst_in); (case ho => kst_in); (case ha => exact rfl); (case hf => exact True.intro); (case hk => exact List.forall_mem_nil _); (case hr => kst_same); (case hp => exact True.intro)))))
  (k_with "ifx" => (k_here; (fail_if_success (with_reducible show wpAny _ _ _ (WayDone _ _ _ _ _ _) _ _)); k_dflt (refine' join_way ?F ?N ?_ (fun D9 x9 y9 t91 t92 c9 h9 tk9 hn9 b91 b92 l9 F9 N9 => ?_); (case F => k_asm); (case N => k_asm))))
  (k_with "kne" => first | with_reducible assumption | exact Nat.ne_of_gt (by with_reducible assumption) | (refine' ne_of_mem ?l ?m; (case l => assumption); (case m => k_mem)) | (refine neN ?_; (try dsimp only); omega))
  (k_with "exec For Name Call cons nil" => ((try (with_reducible show wpAny _ _ (exec (Stmt.For (Expr.Name (Str.ofString "k") _) _ _ _ _) _) _ _ _; (rename News _ _ _ _ => lN9); (replace lN9 := drop_all lN9); (rename Fr _ _ _ _ => lF9); (try (replace lF9 := fr_way lF9)))); kpr_for))
  (k_with "iter" => k_search (fun pre => True))
  (k_with "iter" => k_state_short (fun pre items => ∃ p q : Int, items = [p, q] ∧ 0 ≤ p ∧ 0 ≤ q ∧ q < 2147483647) "source")
  (k_with "state" => exact st_ok (by assumption) (by assumption) (by assumption))
  (k_with "sn" => exact sn_ne (by assumption) (by assumption) (by assumption))
  (k_with "bits" => first | decide | exact take_bits1 (by assumption) (by assumption) (by decide) | exact intBits_le_64 (by omega) (by omega))
  (k_with "pos" => first | decide | exact pos1 (by assumption))
  repeat' (first | (k_unfold; (try dsimp only)) | ((first | with_reducible show wpAny _ _ (exec _ _) _ _ _ | with_reducible show wpAny _ _ (eval (Expr.Call _ _ _ _) _) _ _ _ | with_reducible show wpAny _ _ (eval (Expr.Tuple _ _ _) _) _ _ _); k_fold; walk1) | walk1 | (dsimp only; walk1) | fail "no step")
  all_goals first
    | exact ⟨_, _, _, _, rfl, rfl, by assumption⟩
    | (refine' ⟨_, _, _, _, _, _, _, _, rfl, rfl, ?_, ?_, ?_, ?_, (by assumption), cb_drop (by assumption) ?N⟩
       case N => kst_in
       · first | exact way_ne (by assumption) | exact many_ne (by assumption) | omega
       · first | exact way_bits (by assumption) (by assumption) (by assumption) (by assumption) (by assumption) | exact many_bits (by assumption) (by assumption) | exact intBits_le_64 (by omega) (by omega)
       · first | exact way_bits (by assumption) (by assumption) (by assumption) (by assumption) (by assumption) | exact many_bits (by assumption) (by assumption) | exact intBits_le_64 (by omega) (by omega)
       · first | (refine' lt_of_mem ?l ?m; (case l => assumption); (case m => k_mem)) | (refine ltN ?_; (try dsimp only); omega)))
end Mine
theorem PySem.Challenge.cw_qz0058_01_holds : PySem.Challenge.rw_qz0058_01.Holds :=
  Mine.law_walk
