import PyProof.Rows.All
import Wide.All
import OpenK.AllK
import Wide.FinOn
import PySem.Challenge.RW_tk0054_01
open PySem PySem.W PySem.Spec PySem.Calls PyProof.Rows
set_option Elab.async false
namespace Mine
set_option maxRecDepth 100000 in
set_option maxHeartbeats 8000000 in
open_top hd for PySem.Challenge.rw_tk0054_01

local macro_rules | `(tactic| walk_at $s:str) => `(tactic| k_extra $s)
local macro_rules | `(tactic| k_mem) => `(tactic| k_extra "k_mem")
local macro_rules | `(tactic| kst_facts1) => `(tactic| k_extra "kst_facts1")
local macro_rules | `(tactic| k_all) => `(tactic| k_extra "k_all")
local macro_rules | `(tactic| k_ne) => `(tactic| k_extra "k_ne")
local macro_rules | `(tactic| kc_close) => `(tactic| k_extra "kc_close")

/-- the signed rest of n by 2 to the k -/
noncomputable def wrapI (n k : Int) : Int := if 2 * (n % 2 ^ k.toNat) < 2 ^ k.toNat then n % 2 ^ k.toNat else n % 2 ^ k.toNat - 2 ^ k.toNat

/-- x lies among the numbers of the width k -/
def InW (k x : Int) : Prop := -(2 ^ k.toNat) ≤ 2 * x ∧ 2 * x < 2 ^ k.toNat

/-- a and b agree up to a multiple of m -/
def Cg (m a b : Int) : Prop := ∃ c : Int, a = b + m * c

theorem pw_pos (n : Nat) : (0 : Int) < 2 ^ n := kbt_pos n
theorem pw_succ (n : Nat) : (2 : Int) ^ (n + 1) = 2 * 2 ^ n := by rw [Int.pow_succ, Int.mul_comm]
theorem pw_half {k : Int} (h : 1 ≤ k) : (2 : Int) ^ k.toNat = 2 * 2 ^ (k - 1).toNat := by
  have e : k.toNat = (k - 1).toNat + 1 := by omega
  rw [e, pw_succ]
theorem pw_le {a b : Nat} (h : a ≤ b) : (2 : Int) ^ a ≤ 2 ^ b := by
  have h1 : (2 : Nat) ^ a ≤ 2 ^ b := Nat.pow_le_pow_right (by decide) h
  have h2 := kbt_cast a
  have h3 := kbt_cast b
  omega
theorem pw_dvd {a b : Nat} (h : a ≤ b) : ∃ c : Int, (2 : Int) ^ b = 2 ^ a * c := ⟨2 ^ (b - a), by rw [← Int.pow_add]; congr 1; omega⟩
theorem pw_64 {k : Int} (h : k ≤ 64) : (2 : Int) ^ k.toNat ≤ 18446744073709551616 := by
  have h1 : (2 : Int) ^ k.toNat ≤ 2 ^ 64 := pw_le (by omega)
  have h2 : (2 : Int) ^ 64 = 18446744073709551616 := by decide
  omega

theorem Cg.refl (m a : Int) : Cg m a a := ⟨0, by omega⟩
theorem Cg.symm {m a b : Int} (h : Cg m a b) : Cg m b a := by obtain ⟨c, h⟩ := h; exact ⟨-c, by grind⟩
theorem Cg.trans {m a b d : Int} (h : Cg m a b) (g : Cg m b d) : Cg m a d := by obtain ⟨c, h⟩ := h; obtain ⟨e, g⟩ := g; exact ⟨c + e, by grind⟩
theorem Cg.mul {m a b d e : Int} (h : Cg m a b) (g : Cg m d e) : Cg m (a * d) (b * e) := by
  obtain ⟨u, h⟩ := h; obtain ⟨v, g⟩ := g; exact ⟨b * v + e * u + m * u * v, by grind⟩
theorem Cg.sub {m a b d e : Int} (h : Cg m a b) (g : Cg m d e) : Cg m (a - d) (b - e) := by
  obtain ⟨u, h⟩ := h; obtain ⟨v, g⟩ := g; exact ⟨u - v, by grind⟩
theorem Cg.pow {m a b : Int} (h : Cg m a b) (n : Nat) : Cg m (a ^ n) (b ^ n) := by
  induction n with
  | zero => rw [Int.pow_zero, Int.pow_zero]; exact Cg.refl _ _
  | succ n ih => rw [Int.pow_succ, Int.pow_succ]; exact ih.mul h
theorem Cg.mono {m n a b : Int} (h : Cg (m * n) a b) : Cg m a b := by obtain ⟨c, h⟩ := h; exact ⟨n * c, by grind⟩
theorem Cg.low {i j : Nat} {a b : Int} (hij : i ≤ j) (h : Cg (2 ^ j) a b) : Cg (2 ^ i) a b := by
  obtain ⟨c, e⟩ := pw_dvd hij; rw [e] at h; exact h.mono
theorem Cg.mod {m a b : Int} (h : Cg m a b) : (a - b) % m = 0 := by
  obtain ⟨c, h⟩ := h
  have e : a - b = m * c := by omega
  rw [e]; exact Int.mul_emod_right m c
theorem Cg.fmod {m a b : Int} (hm : 0 ≤ m) (h : Cg m a b) : (a - b).fmod m = 0 := by
  rw [Int.fmod_eq_emod_of_nonneg _ hm]; exact h.mod
theorem Cg.of_mod {m a b : Int} (h : (a - b) % m = 0) : Cg m a b := by
  refine ⟨(a - b) / m, ?_⟩
  have e := Int.mul_ediv_add_emod (a - b) m
  omega

theorem wrap_cg (n k : Int) : Cg (2 ^ k.toNat) (wrapI n k) n := by
  have e := Int.mul_ediv_add_emod n (2 ^ k.toNat)
  unfold wrapI
  split
  · exact ⟨-(n / 2 ^ k.toNat), by grind⟩
  · exact ⟨-(n / 2 ^ k.toNat) - 1, by grind⟩
theorem wrap_in (n k : Int) : InW k (wrapI n k) := by
  have hp := pw_pos k.toNat
  have h0 := Int.emod_nonneg n (Int.ne_of_gt hp)
  have h1 := Int.emod_lt_of_pos n hp
  unfold wrapI InW
  split <;> omega
theorem in_bound {k x : Int} (h : InW k x) (hk : k ≤ 64) : -9223372036854775808 ≤ x ∧ x ≤ 9223372036854775807 := by
  have h1 := pw_64 hk
  unfold InW at h
  omega
theorem wrap_bound (n : Int) {k : Int} (hk : k ≤ 64) : -9223372036854775808 ≤ wrapI n k ∧ wrapI n k ≤ 9223372036854775807 := in_bound (wrap_in n k) hk
theorem in_unique {k x y : Int} (hx : InW k x) (hy : InW k y) (h : Cg (2 ^ k.toNat) x y) : x = y := by
  obtain ⟨c, h⟩ := h
  have hp := pw_pos k.toNat
  unfold InW at hx hy
  generalize (2 : Int) ^ k.toNat = m at *
  rcases Int.lt_trichotomy c 0 with g | g | g
  · have : m * c ≤ m * (-1) := Int.mul_le_mul_of_nonneg_left (by omega) (by omega)
    omega
  · subst g; omega
  · have : m * 1 ≤ m * c := Int.mul_le_mul_of_nonneg_left (by omega) (by omega)
    omega
theorem wrap_id {k x : Int} (h : InW k x) : wrapI x k = x := in_unique (wrap_in x k) h (wrap_cg x k)
theorem wrap_eq {k x y : Int} (h : Cg (2 ^ k.toNat) x y) : wrapI x k = wrapI y k := in_unique (wrap_in x k) (wrap_in y k) (((wrap_cg x k).trans h).trans (wrap_cg y k).symm)
theorem in_one {k : Int} (h : 3 ≤ k) : InW k 1 := by
  have h1 : (2 : Int) ^ 3 ≤ 2 ^ k.toNat := pw_le (by omega)
  have h2 : (2 : Int) ^ 3 = 8 := by decide
  unfold InW; omega

/-- what the text's wrap reckons -/
theorem wrap_hi {n k : Int} (hk : 1 ≤ k) (h : 1 * 2 ^ (k - 1).toNat ≤ Builtin.bitAnd n (1 * 2 ^ k.toNat - 1)) : Builtin.bitAnd n (1 * 2 ^ k.toNat - 1) - 1 * 2 ^ k.toNat = wrapI n k := by
  simp only [Int.one_mul] at h ⊢
  rw [kbt_mask] at h ⊢
  have e := pw_half hk
  unfold wrapI
  rw [if_neg (by omega)]
theorem wrap_lo {n k : Int} (hk : 1 ≤ k) (h : ¬ 1 * 2 ^ (k - 1).toNat ≤ Builtin.bitAnd n (1 * 2 ^ k.toNat - 1)) : Builtin.bitAnd n (1 * 2 ^ k.toNat - 1) = wrapI n k := by
  simp only [Int.one_mul] at h ⊢
  rw [kbt_mask] at h ⊢
  have e := pw_half hk
  unfold wrapI
  rw [if_pos (by omega)]

-- odd numbers
theorem odd_sq {a : Int} (h : a % 2 = 1) : Cg (2 ^ 3) (a * a) 1 := by
  have h8 : a % 8 = 1 ∨ a % 8 = 3 ∨ a % 8 = 5 ∨ a % 8 = 7 := by omega
  have h9 : (a * a) % 8 = 1 := by
    rw [Int.mul_emod]
    rcases h8 with g | g | g | g <;> rw [g] <;> rfl
  have g := Int.mul_ediv_add_emod (a * a) 8
  rw [h9] at g
  exact ⟨a * a / 8, by rw [Int.add_comm]; exact g.symm⟩
theorem sq_step {s : Nat} {a : Int} (hs : 1 ≤ s) (h : Cg (2 ^ s) a 1) : Cg (2 ^ (s + 1)) (a * a) 1 := by
  obtain ⟨u, rfl⟩ := h
  obtain ⟨p, hp⟩ : ∃ p, (2 : Int) ^ s = 2 * p := ⟨2 ^ (s - 1), by rw [← pw_succ]; congr 1; omega⟩
  rw [pw_succ]
  exact ⟨u + p * u * u, by grind⟩
theorem odd_pow {a : Int} (h : a % 2 = 1) (n : Nat) : Cg (2 ^ (n + 3)) (a ^ (2 ^ (n + 1))) 1 := by
  induction n with
  | zero =>
    have e : a ^ (2 ^ (0 + 1)) = a * a := by rw [show 2 ^ (0 + 1) = 2 from rfl, Int.pow_succ, Int.pow_succ, Int.pow_zero, Int.one_mul]
    rw [e]; exact odd_sq h
  | succ n ih =>
    have e : a ^ (2 ^ (n + 1 + 1)) = a ^ (2 ^ (n + 1)) * a ^ (2 ^ (n + 1)) := by rw [← Int.pow_add]; congr 1; rw [Nat.pow_succ]; omega
    rw [e]
    have g := sq_step (s := n + 3) (by omega) ih
    exact g
/-- Newton's step -/
theorem newton {M a x p y : Int} {r b : Nat} (hM : M = 2 ^ b) (hp : Cg M p (a * x)) (hy : Cg M y (x * (2 - p))) (h : Cg (2 ^ min r b) (a * x) 1) : Cg (2 ^ min (2 * r) b) (a * y) 1 := by
  subst hM
  have h1 : Cg (2 ^ b) (a * y) (a * x * (2 - a * x)) := by
    have g1 : Cg (2 ^ b) (a * y) (a * (x * (2 - p))) := (Cg.refl _ _).mul hy
    have g2 : Cg (2 ^ b) (a * (x * (2 - p))) (a * (x * (2 - a * x))) := (Cg.refl _ _).mul ((Cg.refl _ _).mul ((Cg.refl _ _).sub hp))
    have e : a * (x * (2 - a * x)) = a * x * (2 - a * x) := by grind
    rw [e] at g2
    exact g1.trans g2
  have h2 : Cg (2 ^ (min r b + min r b)) (a * x * (2 - a * x)) 1 := by
    obtain ⟨c, h⟩ := h
    rw [Int.pow_add, h]
    exact ⟨-(c * c), by grind⟩
  exact (h1.low (Nat.min_le_right _ _)).trans (h2.low (by omega))
theorem inv_unique {M a x y : Int} (hx : Cg M (a * x) 1) (hy : Cg M (a * y) 1) : Cg M x y := by
  have h1 : Cg M (x * (a * y)) (x * 1) := (Cg.refl _ _).mul hy
  have h2 : Cg M (y * (a * x)) (y * 1) := (Cg.refl _ _).mul hx
  have e : x * (a * y) = y * (a * x) := by grind
  rw [e] at h1
  simp only [Int.mul_one] at h1 h2
  exact h1.symm.trans h2

/-- what a call of the def at f, on the values vs, over the ledger news, gives back (d: how many frames it may lay) -/
abbrev Claim (prog : Program) (w : World) (d : Nat) (f : Addr) (news : List (Addr × Obj)) (vs : List Value) (R : Value → Prop) : Prop :=
  ∀ (loose : List Str) (mean : ExcName → Option Value) (mg mb : Str → Option Value)
    (dp un : Nat) (gd : Option (List Code)) (cn : Str) (cs : Scope) (a : Addr) (ccd : Value) (cl : List (Str × Addr)) (outer : List Env) (A₀ : Around) (base h₀ : Heap) (L : Addr) (m : Str → Option Value) (s : Shared) (Q E : Value → Shared → Prop),
    Below A₀ base outer h₀ → Fr h₀ L s.heap m → (hd.heap_39 w.params).In h₀ → News h₀ L s.heap news → Top hd.view_39 loose mean mg mb h₀ → cs.kind = .function →
    dp + d < recursionLimit → un + 8 * d < cLine →
    (∀ (r : Value) (h' : Heap) (tk' : Nat), Fr h₀ L h' m → News h₀ L h' news → R r → Q r { s with heap := h', toks := tk' }) →
    wpAny (model prog w) (ktrTop dp un gd cn cs L a ccd cl outer) (call (.ref f) vs) Q E s

theorem Claim.use {prog : Program} {w : World} {d : Nat} {f : Addr} {news : List (Addr × Obj)} {vs : List Value} {R : Value → Prop}
    {loose : List Str} {mean : ExcName → Option Value} {mg mb : Str → Option Value}
    {dp un : Nat} {gd : Option (List Code)} {cn : Str} {cs : Scope} {a : Addr} {ccd : Value} {cl : List (Str × Addr)} {outer : List Env} {A₀ : Around} {base h₀ : Heap} {L : Addr} {m : Str → Option Value} {s : Shared} {Q E : Value → Shared → Prop}
    (C : Claim prog w d f news vs R)
    (B : Below A₀ base outer h₀) (F : Fr h₀ L s.heap m) (X : (hd.heap_39 w.params).In h₀) (N : News h₀ L s.heap news) (T : Top hd.view_39 loose mean mg mb h₀) (hk : cs.kind = .function)
    (hd : dp + d < recursionLimit) (hu : un + 8 * d < cLine)
    (ret : ∀ (r : Value) (h' : Heap) (tk' : Nat), Fr h₀ L h' m → News h₀ L h' news → R r → Q r { s with heap := h', toks := tk' }) :
    wpAny (model prog w) (ktrTop dp un gd cn cs L a ccd cl outer) (call (.ref f) vs) Q E s :=
  C loose mean mg mb dp un gd cn cs a ccd cl outer A₀ base h₀ L m s Q E B F X N T hk hd hu ret
theorem Claim.useI {prog : Program} {w : World} {d : Nat} {f : Addr} {news : List (Addr × Obj)} {vs : List Value} {k : Int}
    {loose : List Str} {mean : ExcName → Option Value} {mg mb : Str → Option Value}
    {dp un : Nat} {gd : Option (List Code)} {cn : Str} {cs : Scope} {a : Addr} {ccd : Value} {cl : List (Str × Addr)} {outer : List Env} {A₀ : Around} {base h₀ : Heap} {L : Addr} {m : Str → Option Value} {s : Shared} {Q E : Value → Shared → Prop}
    (C : Claim prog w d f news vs (fun r => ∃ t, r = .int k t))
    (B : Below A₀ base outer h₀) (F : Fr h₀ L s.heap m) (X : (hd.heap_39 w.params).In h₀) (N : News h₀ L s.heap news) (T : Top hd.view_39 loose mean mg mb h₀) (hk : cs.kind = .function)
    (hd : dp + d < recursionLimit) (hu : un + 8 * d < cLine)
    (ret : ∀ (t : Tok) (h' : Heap) (tk' : Nat), Fr h₀ L h' m → News h₀ L h' news → Q (.int k t) { s with heap := h', toks := tk' }) :
    wpAny (model prog w) (ktrTop dp un gd cn cs L a ccd cl outer) (call (.ref f) vs) Q E s :=
  Claim.use C B F X N T hk hd hu (by rintro _ h' tk' F' N' ⟨t, rfl⟩; exact ret t h' tk' F' N')
theorem Claim.useI2 {prog : Program} {w : World} {d : Nat} {f : Addr} {news : List (Addr × Obj)} {vs : List Value} {k : Int} {P1 P2 : Prop}
    {loose : List Str} {mean : ExcName → Option Value} {mg mb : Str → Option Value}
    {dp un : Nat} {gd : Option (List Code)} {cn : Str} {cs : Scope} {a : Addr} {ccd : Value} {cl : List (Str × Addr)} {outer : List Env} {A₀ : Around} {base h₀ : Heap} {L : Addr} {m : Str → Option Value} {s : Shared} {Q E : Value → Shared → Prop}
    (C : Claim prog w d f news vs (fun r => ∃ t, r = .int k t ∧ P1 ∧ P2))
    (B : Below A₀ base outer h₀) (F : Fr h₀ L s.heap m) (X : (hd.heap_39 w.params).In h₀) (N : News h₀ L s.heap news) (T : Top hd.view_39 loose mean mg mb h₀) (hk : cs.kind = .function)
    (hd : dp + d < recursionLimit) (hu : un + 8 * d < cLine)
    (ret : ∀ (t : Tok) (h' : Heap) (tk' : Nat), Fr h₀ L h' m → News h₀ L h' news → P1 → P2 → Q (.int k t) { s with heap := h', toks := tk' }) :
    wpAny (model prog w) (ktrTop dp un gd cn cs L a ccd cl outer) (call (.ref f) vs) Q E s :=
  Claim.use C B F X N T hk hd hu (by rintro _ h' tk' F' N' ⟨t, rfl, a1, a2⟩; exact ret t h' tk' F' N' a1 a2)
theorem Claim.useI3 {prog : Program} {w : World} {d : Nat} {f : Addr} {news : List (Addr × Obj)} {vs : List Value} {k : Int} {P1 P2 P3 : Prop}
    {loose : List Str} {mean : ExcName → Option Value} {mg mb : Str → Option Value}
    {dp un : Nat} {gd : Option (List Code)} {cn : Str} {cs : Scope} {a : Addr} {ccd : Value} {cl : List (Str × Addr)} {outer : List Env} {A₀ : Around} {base h₀ : Heap} {L : Addr} {m : Str → Option Value} {s : Shared} {Q E : Value → Shared → Prop}
    (C : Claim prog w d f news vs (fun r => ∃ t, r = .int k t ∧ P1 ∧ P2 ∧ P3))
    (B : Below A₀ base outer h₀) (F : Fr h₀ L s.heap m) (X : (hd.heap_39 w.params).In h₀) (N : News h₀ L s.heap news) (T : Top hd.view_39 loose mean mg mb h₀) (hk : cs.kind = .function)
    (hd : dp + d < recursionLimit) (hu : un + 8 * d < cLine)
    (ret : ∀ (t : Tok) (h' : Heap) (tk' : Nat), Fr h₀ L h' m → News h₀ L h' news → P1 → P2 → P3 → Q (.int k t) { s with heap := h', toks := tk' }) :
    wpAny (model prog w) (ktrTop dp un gd cn cs L a ccd cl outer) (call (.ref f) vs) Q E s :=
  Claim.use C B F X N T hk hd hu (by rintro _ h' tk' F' N' ⟨t, rfl, a1, a2, a3⟩; exact ret t h' tk' F' N' a1 a2 a3)
theorem Claim.useX {prog : Program} {w : World} {d : Nat} {f : Addr} {news : List (Addr × Obj)} {vs : List Value} {P1 P2 P3 P4 : Int → Prop}
    {loose : List Str} {mean : ExcName → Option Value} {mg mb : Str → Option Value}
    {dp un : Nat} {gd : Option (List Code)} {cn : Str} {cs : Scope} {a : Addr} {ccd : Value} {cl : List (Str × Addr)} {outer : List Env} {A₀ : Around} {base h₀ : Heap} {L : Addr} {m : Str → Option Value} {s : Shared} {Q E : Value → Shared → Prop}
    (C : Claim prog w d f news vs (fun r => ∃ x t, r = .int x t ∧ P1 x ∧ P2 x ∧ P3 x ∧ P4 x))
    (B : Below A₀ base outer h₀) (F : Fr h₀ L s.heap m) (X : (hd.heap_39 w.params).In h₀) (N : News h₀ L s.heap news) (T : Top hd.view_39 loose mean mg mb h₀) (hk : cs.kind = .function)
    (hd : dp + d < recursionLimit) (hu : un + 8 * d < cLine)
    (ret : ∀ (x : Int) (t : Tok) (h' : Heap) (tk' : Nat), Fr h₀ L h' m → News h₀ L h' news → P1 x → P2 x → P3 x → P4 x → Q (.int x t) { s with heap := h', toks := tk' }) :
    wpAny (model prog w) (ktrTop dp un gd cn cs L a ccd cl outer) (call (.ref f) vs) Q E s :=
  Claim.use C B F X N T hk hd hu (by rintro _ h' tk' F' N' ⟨x, t, rfl, a1, a2, a3, a4⟩; exact ret x t h' tk' F' N' a1 a2 a3 a4)
theorem Claim.useV {prog : Program} {w : World} {d : Nat} {f : Addr} {news : List (Addr × Obj)} {vs : List Value} {v : Value}
    {loose : List Str} {mean : ExcName → Option Value} {mg mb : Str → Option Value}
    {dp un : Nat} {gd : Option (List Code)} {cn : Str} {cs : Scope} {a : Addr} {ccd : Value} {cl : List (Str × Addr)} {outer : List Env} {A₀ : Around} {base h₀ : Heap} {L : Addr} {m : Str → Option Value} {s : Shared} {Q E : Value → Shared → Prop}
    (C : Claim prog w d f news vs (fun r => r = v))
    (B : Below A₀ base outer h₀) (F : Fr h₀ L s.heap m) (X : (hd.heap_39 w.params).In h₀) (N : News h₀ L s.heap news) (T : Top hd.view_39 loose mean mg mb h₀) (hk : cs.kind = .function)
    (hd : dp + d < recursionLimit) (hu : un + 8 * d < cLine)
    (ret : ∀ (h' : Heap) (tk' : Nat), Fr h₀ L h' m → News h₀ L h' news → Q v { s with heap := h', toks := tk' }) :
    wpAny (model prog w) (ktrTop dp un gd cn cs L a ccd cl outer) (call (.ref f) vs) Q E s :=
  Claim.use C B F X N T hk hd hu (by rintro _ h' tk' F' N' rfl; exact ret h' tk' F' N')

set_option maxRecDepth 100000 in
set_option maxHeartbeats 8000000 in
theorem wrap_c (prog : Program) (w : World) (news : List (Addr × Obj)) (n k : Int) (t1 t2 : Tok) (hk3 : 3 ≤ k) (hk64 : k ≤ 64) :
    Claim prog w 2 111 news [.int n t1, .int k t2] (fun r => ∃ t, r = .int (wrapI n k) t) := by
  w_top off
  k_with_none
  intro loose mean mg mb dp un gd cn cs a ccd cl outer A₀ base h₀ L m s Q E B F X N T hk hd hu hret
  refine wpAny_call ?_
  k_dflt cell_enter
  k_steps
  · refine hret _ _ _ (by k_asm) (by k_asm) ?_
    rw [wrap_hi (by omega) (by assumption)]
    exact ⟨_, rfl⟩
  · refine hret _ _ _ (by k_asm) (by k_asm) ?_
    rw [wrap_lo (by omega) (by assumption)]
    exact ⟨_, rfl⟩

/-- between the turns of power's loop -/
def PowP (k a b₀ b f s : Int) : Prop := 0 ≤ b ∧ Cg (2 ^ k.toNat) (f * s ^ b.toNat) (a ^ b₀.toNat)

theorem pow_start {k a b : Int} (hb : 0 ≤ b) : PowP k a b b 1 a := ⟨hb, by rw [Int.one_mul]; exact Cg.refl _ _⟩
theorem pow_turn {k a b₀ b f s : Int} (h : PowP k a b₀ b f s) (hb : 0 < b) :
    (b.fmod 2 = 1 → PowP k a b₀ (b.fdiv 2) (wrapI (f * s) k) (wrapI (s * s) k)) ∧ (b.fmod 2 ≠ 1 → PowP k a b₀ (b.fdiv 2) f (wrapI (s * s) k)) := by
  obtain ⟨_, h⟩ := h
  have e1 : b.fmod 2 = b % 2 := Int.fmod_eq_emod_of_nonneg _ (by decide)
  have e2 : b.fdiv 2 = b / 2 := Int.fdiv_eq_ediv_of_nonneg _ (by decide)
  rw [e1, e2]
  have hs : Cg (2 ^ k.toNat) (wrapI (s * s) k ^ (b / 2).toNat) ((s * s) ^ (b / 2).toNat) := (wrap_cg _ _).pow _
  have e3 : (s * s) ^ (b / 2).toNat = s ^ (2 * (b / 2).toNat) := by
    rw [Int.pow_mul, Int.pow_succ, Int.pow_succ, Int.pow_zero, Int.one_mul]
  rw [e3] at hs
  constructor
  · intro ho
    refine ⟨Int.ediv_nonneg (Int.le_of_lt hb) (by decide), ?_⟩
    have g : Cg (2 ^ k.toNat) (wrapI (f * s) k * wrapI (s * s) k ^ (b / 2).toNat) (f * s * s ^ (2 * (b / 2).toNat)) := (wrap_cg _ _).mul hs
    have e4 : f * s * s ^ (2 * (b / 2).toNat) = f * s ^ b.toNat := by
      have e5 : b.toNat = 2 * (b / 2).toNat + 1 := by omega
      rw [e5, Int.pow_succ, Int.mul_assoc, Int.mul_comm s]
    rw [e4] at g
    exact g.trans h
  · intro ho
    refine ⟨Int.ediv_nonneg (Int.le_of_lt hb) (by decide), ?_⟩
    have g : Cg (2 ^ k.toNat) (f * wrapI (s * s) k ^ (b / 2).toNat) (f * s ^ (2 * (b / 2).toNat)) := (Cg.refl _ _).mul hs
    have e5 : b.toNat = 2 * (b / 2).toNat := by omega
    rw [e5] at h
    exact g.trans h
theorem pow_end {k a b₀ b f s : Int} (h : PowP k a b₀ b f s) (hb : ¬ 0 < b) : wrapI f k = wrapI (a ^ b₀.toNat) k := by
  obtain ⟨h0, h⟩ := h
  have e : b.toNat = 0 := by omega
  rw [e, Int.pow_zero, Int.mul_one] at h
  exact wrap_eq h

theorem pow_out {k a b₀ b f s : Int} {t : Tok} (h : PowP k a b₀ b f s) (hb : ¬ 0 < b) : ∃ t', Value.int (wrapI f k) t = Value.int (wrapI (a ^ b₀.toNat) k) t' := ⟨t, by rw [pow_end h hb]⟩
theorem pow_w0 {k n e : Int} (h0 : 0 ≤ e) (h1 : e ≤ 9223372036854775807) (h2 : -9223372036854775808 ≤ n) (h3 : n ≤ 9223372036854775807) :
    (0 ≤ e ∧ e ≤ 9223372036854775807) ∧ (-9223372036854775808 ≤ (1 : Int) ∧ (1 : Int) ≤ 9223372036854775807) ∧ (-9223372036854775808 ≤ n ∧ n ≤ 9223372036854775807) ∧ PowP k n e e 1 n :=
  ⟨⟨h0, h1⟩, ⟨by decide, by decide⟩, ⟨h2, h3⟩, pow_start h0⟩
theorem half_bound {b : Int} (h : 0 < b) (g : b ≤ 9223372036854775807) : 0 ≤ b.fdiv 2 ∧ b.fdiv 2 ≤ 9223372036854775807 := by
  have e2 : b.fdiv 2 = b / 2 := Int.fdiv_eq_ediv_of_nonneg _ (by decide)
  omega
theorem half_less {b : Int} (h : 0 < b) : (b.fdiv 2).toNat < b.toNat := by
  have e2 : b.fdiv 2 = b / 2 := Int.fdiv_eq_ediv_of_nonneg _ (by decide)
  omega
theorem pow_w1 {k n e b f s : Int} (h : PowP k n e b f s) (hk : k ≤ 64) (hb : 0 < b) (hb2 : b ≤ 9223372036854775807) (ho : b.fmod 2 = 1) :
    (0 ≤ b.fdiv 2 ∧ b.fdiv 2 ≤ 9223372036854775807) ∧ (-9223372036854775808 ≤ wrapI (f * s) k ∧ wrapI (f * s) k ≤ 9223372036854775807) ∧ (-9223372036854775808 ≤ wrapI (s * s) k ∧ wrapI (s * s) k ≤ 9223372036854775807) ∧ PowP k n e (b.fdiv 2) (wrapI (f * s) k) (wrapI (s * s) k) :=
  ⟨half_bound hb hb2, wrap_bound _ hk, wrap_bound _ hk, (pow_turn h hb).1 ho⟩
theorem pow_w2 {k n e b f s : Int} (h : PowP k n e b f s) (hk : k ≤ 64) (hb : 0 < b) (hb2 : b ≤ 9223372036854775807) (ho : b.fmod 2 ≠ 1) (h1 : -9223372036854775808 ≤ f) (h2 : f ≤ 9223372036854775807) :
    (0 ≤ b.fdiv 2 ∧ b.fdiv 2 ≤ 9223372036854775807) ∧ (-9223372036854775808 ≤ f ∧ f ≤ 9223372036854775807) ∧ (-9223372036854775808 ≤ wrapI (s * s) k ∧ wrapI (s * s) k ≤ 9223372036854775807) ∧ PowP k n e (b.fdiv 2) f (wrapI (s * s) k) :=
  ⟨half_bound hb hb2, ⟨h1, h2⟩, wrap_bound _ hk, (pow_turn h hb).2 ho⟩

theorem wrap_u (prog : Program) (w : World) (news : List (Addr × Obj)) (n k : Int) (t1 t2 : Tok) (hk3 : 3 ≤ k) (hk64 : k ≤ 64) :
    Claim prog w 2 111 news [.int n t1, .int k t2] (fun r => ∃ t, r = .int (wrapI n k) t ∧ -9223372036854775808 ≤ wrapI n k ∧ wrapI n k ≤ 9223372036854775807) := by
  intro loose mean mg mb dp un gd cn cs a ccd cl outer A₀ base h₀ L m s Q E B F X N T hk hd hu hret
  refine Claim.use (wrap_c prog w news n k t1 t2 hk3 hk64) B F X N T hk hd hu ?_
  rintro r h' tk' F' N' ⟨t, rfl⟩
  exact hret _ h' tk' F' N' ⟨t, rfl, wrap_bound n hk64⟩


theorem words1 : True := by
  k_with_none
  k_with "call ref" => ((k_here; (with_reducible show wpAny _ _ (call (Value.ref 111) [Value.int _ _, Value.int _ _]) _ _ _); k_dflt (refine' Claim.useI2 (wrap_u _ _ _ _ _ _ _ ?myHolek3 ?myHolek64) ?myHolekB ?myHolekF ?myHolekX ?myHolekN ?myHolekT ?myHolekK ?myHolekd ?myHoleku ?_; (case myHolek3 => first | with_reducible assumption | omega); (case myHolek64 => first | with_reducible assumption | omega); (case myHolekB => k_asm); (case myHolekF => k_asm); (case myHolekX => k_asm); (case myHolekN => k_asm); (case myHolekT => k_asm); (case myHolekK => first | exact rfl | assumption); (case myHolekd => ktr_room); (case myHoleku => ktr_units); intro t9 h9 tk9 F9 N9 lo9 hi9; (try dsimp only); (try k_fold))))
  trivial
set_option maxRecDepth 100000 in
set_option maxHeartbeats 8000000 in
theorem power_c (prog : Program) (w : World) (news : List (Addr × Obj)) (n e k : Int) (t1 t2 t3 : Tok) (hk3 : 3 ≤ k) (hk64 : k ≤ 64) (he0 : 0 ≤ e) (heh : e ≤ 9223372036854775807) (hnl : -9223372036854775808 ≤ n) (hnh : n ≤ 9223372036854775807) :
    Claim prog w 4 125 news [.int n t1, .int e t2, .int k t3] (fun r => ∃ t, r = .int (wrapI (n ^ e.toNat) k) t) := by
  w_top off
  k_with "state" => first | exact pow_w0 he0 heh hnl hnh | exact pow_w1 (by assumption) hk64 (by assumption) (by assumption) (by assumption) | exact pow_w2 (by assumption) hk64 (by assumption) (by assumption) (by assumption) (by assumption) (by assumption)
  k_with "measure" => exact half_less (by assumption)
  k_with "exec While Compare cons nil" => k_while (fun _ b f s => (0 ≤ b ∧ b ≤ 9223372036854775807) ∧ (-9223372036854775808 ≤ f ∧ f ≤ 9223372036854775807) ∧ (-9223372036854775808 ≤ s ∧ s ≤ 9223372036854775807) ∧ PowP k n e b f s) (fun _ b _ _ => b.toNat) "b" "found" "base"
  intro loose mean mg mb dp un gd cn cs a ccd cl outer A₀ base h₀ L m s Q E B F X N T hk hd hu hret
  refine wpAny_call ?_
  k_dflt cell_enter
  k_steps
  refine hret _ _ _ (by k_asm) (by first | k_asm | (refine' cb_drop ?cbN ?cbS; (case cbN => assumption); (case cbS => kcj_all))) ?_
  exact pow_out (by assumption) (by assumption)

theorem words2 : True := by
  k_with_none
  k_with "call ref" => ((k_here; (refine wpAny_call ?_); k_dflt (refine' code_def ?myHolek1 ?myHolek2 ?myHolek3 ?myHolek4 ?myHolek5 ?myHolekA ?myHolekF ?myHolekK ?myHolek6 ?myHolek7 ?myHolek8 ?myHolek9 ?myHolekB ?_ ?myHolec2 ?myHolec3 ?myHolec4 ?myHolec5; (case myHolekA => exact rfl); (case myHolekF => exact rfl); (case myHolekK => first | exact rfl | assumption); (case myHolek1 => k_asm); (case myHolek2 => k_asm); (case myHolek3 => k_asm); (case myHolek4 => k_asm); (case myHolek5 => k_asm); (case myHolek6 => k_is); (case myHolek7 => k_is); (case myHolek8 => ktr_room); (case myHolek9 => exact BindsTo.of_eq rfl); (case myHolec5 => decide); (case myHolekB => exact locs rfl); (case myHolec2 => exact rfl); (case myHolec3 => exact rfl); (case myHolec4 => exact rfl); k_whole; intro g' L' h' FG' F' N' B' X' T'; (try dsimp only); (try k_lift B'); (try k_fold))))
  k_with "call ref" => ((k_here; (with_reducible show wpAny _ _ (call (Value.ref 111) [Value.int _ _, Value.int _ _]) _ _ _); k_dflt (refine' Claim.useI2 (wrap_u _ _ _ _ _ _ _ ?myHolek3 ?myHolek64) ?myHolekB ?myHolekF ?myHolekX ?myHolekN ?myHolekT ?myHolekK ?myHolekd ?myHoleku ?_; (case myHolek3 => first | with_reducible assumption | omega); (case myHolek64 => first | with_reducible assumption | omega); (case myHolekB => k_asm); (case myHolekF => k_asm); (case myHolekX => k_asm); (case myHolekN => k_asm); (case myHolekT => k_asm); (case myHolekK => first | exact rfl | assumption); (case myHolekd => ktr_room); (case myHoleku => ktr_units); intro t9 h9 tk9 F9 N9 lo9 hi9; (try dsimp only); (try k_fold))))
  k_with "getAttr ref" => ((k_here; k_dflt (refine' get_own ?myHolek1 ?myHolek2 ?myHolek3 ?myHolek4 ?myHolek5 ?myHolek6 ?myHolek7 ?myHolek8 ?myHolek9 ?_; (case myHolek1 => k_asm); (case myHolek2 => k_asm); (case myHolek3 => k_inst); (case myHolek4 => k_is); (case myHolek5 => k_is); (case myHolek6 => k_is); (case myHolek7 => k_is); (case myHolek8 => assumption); (case myHolek9 => k_handed); k_whole)))
  k_with "call ref" => ((k_here; (with_reducible show wpAny _ _ (call (Value.ref 125) [Value.int _ _, Value.int _ _, Value.int _ _]) _ _ _); k_dflt (refine' Claim.useI (power_c _ _ _ _ _ _ _ _ _ ?myHolek3 ?myHolek64 ?myHolek5 ?myHolek6 ?myHolek7 ?myHolek8) ?myHolekB ?myHolekF ?myHolekX ?myHolekN ?myHolekT ?myHolekK ?myHolekd ?myHoleku ?_; (case myHolek3 => first | with_reducible assumption | omega); (case myHolek64 => first | with_reducible assumption | omega); (case myHolek5 => first | with_reducible assumption | omega); (case myHolek6 => first | with_reducible assumption | omega); (case myHolek7 => first | with_reducible assumption | omega); (case myHolek8 => first | with_reducible assumption | omega); (case myHolekB => k_asm); (case myHolekF => k_asm); (case myHolekX => k_asm); (case myHolekN => k_asm); (case myHolekT => k_asm); (case myHolekK => first | exact rfl | assumption); (case myHolekd => ktr_room); (case myHoleku => ktr_units); intro t9 h9 tk9 F9 N9; (try dsimp only); (try k_fold))))
  trivial
set_option maxRecDepth 100000 in
set_option maxHeartbeats 8000000 in
theorem arith_mul (prog : Program) (w : World) (news : List (Addr × Obj)) (l ld : Addr) (es : List DictEntry) (ne : Nat) (x y k : Int) (t0 t1 t2 t3 : Tok) (hk3 : 3 ≤ k) (hk64 : k ≤ 64)
    (hl : (l, instObj 53 ld) ∈ news) (hld : (ld, dictOf es ne) ∈ news) (hw : getL "width" es = some (some (.int k t3)))
    (hx : -9223372036854775808 ≤ x) (hx2 : x ≤ 9223372036854775807) (hy : -9223372036854775808 ≤ y) (hy2 : y ≤ 9223372036854775807) :
    Claim prog w 6 132 news [.bytes #[109, 117, 108] t0, .int x t1, .int y t2, .ref l] (fun r => ∃ t, r = .int (wrapI (x * y) k) t) := by
  w_top off
  intro loose mean mg mb dp un gd cn cs a ccd cl outer A₀ base h₀ L m s Q E B F X N T hk hd hu hret
  refine wpAny_call ?_
  k_dflt cell_enter
  k_steps
  exact hret _ _ _ (by k_asm) (by k_asm) ⟨_, rfl⟩

set_option maxRecDepth 100000 in
set_option maxHeartbeats 8000000 in
theorem arith_sub (prog : Program) (w : World) (news : List (Addr × Obj)) (l ld : Addr) (es : List DictEntry) (ne : Nat) (x y k : Int) (t0 t1 t2 t3 : Tok) (hk3 : 3 ≤ k) (hk64 : k ≤ 64)
    (hl : (l, instObj 53 ld) ∈ news) (hld : (ld, dictOf es ne) ∈ news) (hw : getL "width" es = some (some (.int k t3)))
    (hx : -9223372036854775808 ≤ x) (hx2 : x ≤ 9223372036854775807) (hy : -9223372036854775808 ≤ y) (hy2 : y ≤ 9223372036854775807) :
    Claim prog w 6 132 news [.bytes #[115, 117, 98] t0, .int x t1, .int y t2, .ref l] (fun r => ∃ t, r = .int (wrapI (x - y) k) t) := by
  w_top off
  intro loose mean mg mb dp un gd cn cs a ccd cl outer A₀ base h₀ L m s Q E B F X N T hk hd hu hret
  refine wpAny_call ?_
  k_dflt cell_enter
  k_steps
  exact hret _ _ _ (by k_asm) (by k_asm) ⟨_, rfl⟩

set_option maxRecDepth 100000 in
set_option maxHeartbeats 8000000 in
theorem arith_unm (prog : Program) (w : World) (news : List (Addr × Obj)) (l ld : Addr) (es : List DictEntry) (ne : Nat) (x y k : Int) (t0 t1 t2 t3 : Tok) (hk3 : 3 ≤ k) (hk64 : k ≤ 64)
    (hl : (l, instObj 53 ld) ∈ news) (hld : (ld, dictOf es ne) ∈ news) (hw : getL "width" es = some (some (.int k t3)))
    (hx : -9223372036854775808 ≤ x) (hx2 : x ≤ 9223372036854775807) (hy : -9223372036854775808 ≤ y) (hy2 : y ≤ 9223372036854775807) :
    Claim prog w 6 132 news [.bytes #[117, 110, 109] t0, .int x t1, .int y t2, .ref l] (fun r => ∃ t, r = .int (wrapI (-x) k) t) := by
  w_top off
  intro loose mean mg mb dp un gd cn cs a ccd cl outer A₀ base h₀ L m s Q E B F X N T hk hd hu hret
  refine wpAny_call ?_
  k_dflt cell_enter
  k_steps
  exact hret _ _ _ (by k_asm) (by k_asm) ⟨_, rfl⟩

set_option maxRecDepth 100000 in
set_option maxHeartbeats 8000000 in
theorem arith_pow (prog : Program) (w : World) (news : List (Addr × Obj)) (l ld : Addr) (es : List DictEntry) (ne : Nat) (x y k : Int) (t0 t1 t2 t3 : Tok) (hk3 : 3 ≤ k) (hk64 : k ≤ 64)
    (hl : (l, instObj 53 ld) ∈ news) (hld : (ld, dictOf es ne) ∈ news) (hw : getL "width" es = some (some (.int k t3)))
    (hx : -9223372036854775808 ≤ x) (hx2 : x ≤ 9223372036854775807) (hy : 0 ≤ y) (hy2 : y ≤ 9223372036854775807) :
    Claim prog w 6 132 news [.bytes #[112, 111, 119] t0, .int x t1, .int y t2, .ref l] (fun r => ∃ t, r = .int (wrapI (x ^ y.toNat) k) t) := by
  w_top off
  intro loose mean mg mb dp un gd cn cs a ccd cl outer A₀ base h₀ L m s Q E B F X N T hk hd hu hret
  refine wpAny_call ?_
  k_dflt cell_enter
  k_steps
  exact hret _ _ _ (by k_asm) (by k_asm) ⟨_, rfl⟩

-- a written table under ints
def KeysI : List DictEntry → Prop
  | [] => True
  | e :: r => (∃ i t, e.key = .int i t ∧ e.hash = hashInt i) ∧ KeysI r
theorem KeysI.all {l : List DictEntry} (h : KeysI l) : ∀ e ∈ l, ∃ i t, e.key = .int i t ∧ e.hash = hashInt i := by
  induction l with
  | nil => intro e he; exact absurd he List.not_mem_nil
  | cons a r ih =>
    intro e he
    rcases List.mem_cons.mp he with rfl | he
    · exact h.1
    · exact ih h.2 e he
noncomputable def lookI (k : Int) (l : List DictEntry) : Option Value := (l.find? fun e => Value.isInt k e.key).map (·.val)
section
variable {prog : Program} {w : World} {A : Around} {E : Value → Shared → Prop} {s : Shared} {h₀ h : Heap} {L a : Addr} {m : Str → Option Value} {K : Frag} {l : List DictEntry} {n : Nat} {k : Int} {t : Tok} {v : Value}
theorem mapOf_KI (X : K.In h) (hl : K.lookup a = some ⟨.type "dict", none, .dict l.toArray n, #[]⟩) (hk : KeysI l) : h.MapOf (intKind prog w) a (fun k => lookI k l) :=
  ⟨_, l.toArray, n, X _ _ hl, ⟨rfl, rfl, rfl⟩, rfl, fun e he => by
    obtain ⟨i, t, e1, e2⟩ := hk.all e (by simpa using he)
    exact ⟨i, by rw [e1]; exact intKind_is prog w i t, e2⟩, fun k => by unfold lookI findBy; rw [List.find?_toArray]; rfl⟩
theorem topItem_KI {value slice : PySem.Expr} {Q : Value → Shared → Prop} (F : Fr h₀ L s.heap m) (X₀ : K.In h₀) (hl : K.lookup a = some ⟨.type "dict", none, .dict l.toArray n, #[]⟩) (hk : KeysI l) (e : lookI k l = some v)
    (h : Q v { s with toks := s.toks + 1 })
    (hs : subscripted slice false (.ref a) (.int k t) = operate [.ref a, .int k t] (getItem (.ref a) (.int k t))) :
    wpAny (model prog w) A (subscriptTail value slice (.ref a) (.int k t)) Q E s :=
  have hm := mapOf_KI (prog := prog) (w := w) (X₀.keeps F.keep) hl hk
  tail_any hm.typeIs slot_dict_getitem.lookup (wpAny_getItem_of (intKind_is prog w k t) hm e h) hs
theorem topNotIn_KI {r : Option Value} {Q : Value → Shared → Prop} (F : Fr h₀ L s.heap m) (X₀ : K.In h₀) (hl : K.lookup a = some ⟨.type "dict", none, .dict l.toArray n, #[]⟩) (hk : KeysI l) (e : lookI k l = r) (lo : (a == sysModules) = false)
    (h : Q (.bool (!r.isSome)) { s with toks := s.toks + 1 }) : wpAny (model prog w) A (compareOp .NotIn (.int k t) (.ref a)) Q E s :=
  wpAny_notIn_of (intKind_is prog w k t) lo (mapOf_KI (prog := prog) (w := w) (X₀.keeps F.keep) hl hk) (by subst e; exact h)
end
theorem ne_self {a : Int} {P : Prop} (h : a ≠ a) : P := absurd rfl h
theorem mem_up {α : Type} {a : α} {l : List α} (h : a ∈ l) : List.Mem a l := h
theorem mem_l {α : Type} {a : α} {l l' : List α} (h : List.Mem a l) : List.Mem a (l ++ l') := List.mem_append.mpr (.inl h)
theorem mem_r {α : Type} {a : α} {l l' : List α} (h : List.Mem a l') : List.Mem a (l ++ l') := List.mem_append.mpr (.inr h)
theorem base1 : True := by
  k_with "k_mem" => (first | exact mem_up (by assumption) | (refine mem_l ?_; k_mem) | (refine mem_r ?_; k_mem))
  trivial


theorem words3 : True := by
  k_with_none
  k_with "k_mem" => (first | exact mem_up (by assumption) | (refine mem_l ?_; k_mem) | (refine mem_r ?_; k_mem))
  k_with "call ref" => ((k_here; (refine wpAny_call ?_); k_dflt (refine' code_def ?myHolek1 ?myHolek2 ?myHolek3 ?myHolek4 ?myHolek5 ?myHolekA ?myHolekF ?myHolekK ?myHolek6 ?myHolek7 ?myHolek8 ?myHolek9 ?myHolekB ?_ ?myHolec2 ?myHolec3 ?myHolec4 ?myHolec5; (case myHolekA => exact rfl); (case myHolekF => exact rfl); (case myHolekK => first | exact rfl | assumption); (case myHolek1 => k_asm); (case myHolek2 => k_asm); (case myHolek3 => k_asm); (case myHolek4 => k_asm); (case myHolek5 => k_asm); (case myHolek6 => k_is); (case myHolek7 => k_is); (case myHolek8 => ktr_room); (case myHolek9 => exact BindsTo.of_eq rfl); (case myHolec5 => decide); (case myHolekB => exact locs rfl); (case myHolec2 => exact rfl); (case myHolec3 => exact rfl); (case myHolec4 => exact rfl); k_whole; intro g' L' h' FG' F' N' B' X' T'; (try dsimp only); (try k_lift B'); (try k_fold))))
  trivial
theorem nores_bool {b : Bool} (h : b = false) : Value.bool b = .bool false := by rw [h]
set_option maxRecDepth 100000 in
set_option maxHeartbeats 8000000 in
theorem nores_c (prog : Program) (w : World) (news : List (Addr × Obj)) (p x y : Int) (t0 t1 t2 : Tok) (h3 : p ≠ 3) (h4 : p ≠ 4) (hy : p = 5 → 0 ≤ y) :
    Claim prog w 2 189 news [.int p t0, .int x t1, .int y t2] (fun r => r = .bool false) := by
  w_top off
  intro loose mean mg mb dp un gd cn cs a ccd cl outer A₀ base h₀ L m s Q E B F X N T hk hd hu hret
  refine wpAny_call ?_
  k_dflt cell_enter
  k_steps
  all_goals first | (exfalso; omega) | exact hret _ _ _ (by with_reducible assumption) (by with_reducible assumption) (nores_bool (by first | exact beq_eq_false_iff_ne.mpr (by omega) | exact decide_eq_false (by omega)))

set_option maxRecDepth 100000 in
set_option maxHeartbeats 8000000 in
theorem number_c (prog : Program) (w : World) (news : List (Addr × Obj)) (x : Int) (t0 : Tok) (v : Value) :
    Claim prog w 4 181 news [.int x t0, v] (fun r => r = .int x t0) := by
  w_top off
  intro loose mean mg mb dp un gd cn cs a ccd cl outer A₀ base h₀ L m s Q E B F X N T hk hd hu hret
  refine wpAny_call ?_
  k_dflt cell_enter
  k_steps
  exact hret _ _ _ (by with_reducible assumption) (by with_reducible assumption) rfl

/-- the text's number of the operation at a place; its name -/
noncomputable def opC (p : Int) : Int := if p = 1 then 13 else if p = 2 then 14 else if p = 5 then 17 else 18
noncomputable def opB (c : Int) : Array UInt8 := if c = 13 then #[115, 117, 98] else if c = 14 then #[109, 117, 108] else if c = 17 then #[112, 111, 119] else #[117, 110, 109]
section
variable {prog : Program} {w : World} {A : Around} {E : Value → Shared → Prop} {s : Shared} {h₀ h : Heap} {L a : Addr} {m : Str → Option Value} {p : Int} {t : Tok}
theorem folded_item {value slice : PySem.Expr} {Q : Value → Shared → Prop} (hp : p = 1 ∨ p = 2 ∨ p = 5 ∨ p = 6) (F : Fr h₀ L s.heap m) (X₀ : (hd.heap_39 w.params).In h₀)
    (h : ∀ t', Q (.bytes (opB (opC p)) t') { s with toks := s.toks + 1 })
    (hs : subscripted slice false (.ref 197) (.int (opC p) t) = operate [.ref 197, .int (opC p) t] (getItem (.ref 197) (.int (opC p) t))) :
    wpAny (model prog w) A (subscriptTail value slice (.ref 197) (.int (opC p) t)) Q E s := by
  w_top off
  rcases hp with rfl | rfl | rfl | rfl <;> (refine' topItem_KI (k := opC _) F X₀ ?l ?k ?e ?_ hs; (case l => k_is); (case k => k_keys); (case e => rfl); exact h _)
theorem ops_item {value slice : PySem.Expr} {Q : Value → Shared → Prop} {news : List (Addr × Obj)} {d : Addr} {o : Obj} {kvs : List (Int × Value)} (N : News h₀ L s.heap news) (hm : (d, o) ∈ news) (hd : o.IsDictOf (intKind prog w) kvs) (e : ∃ t', valueAt kvs p = some (.int (opC p) t'))
    (h : ∀ t', Q (.int (opC p) t') { s with toks := s.toks + 1 })
    (hs : subscripted slice false (.ref d) (.int p t) = operate [.ref d, .int p t] (getItem (.ref d) (.int p t))) (hg : ∀ r, letTemporaryGo value (.ref d) r = pure ()) :
    wpAny (model prog w) A (subscriptTail value slice (.ref d) (.int p t)) Q E s := by
  obtain ⟨t', e⟩ := e
  exact kda_item N hm hd (intKind_is prog w p t) e (h t') hs hg
theorem folded_in {Q : Value → Shared → Prop} (hp : p = 1 ∨ p = 2 ∨ p = 5 ∨ p = 6) (F : Fr h₀ L s.heap m) (X₀ : (hd.heap_39 w.params).In h₀)
    (h : Q (.bool false) { s with toks := s.toks + 1 }) : wpAny (model prog w) A (compareOp .NotIn (.int (opC p) t) (.ref 197)) Q E s := by
  w_top off
  rcases hp with rfl | rfl | rfl | rfl <;> (refine' topNotIn_KI (k := opC _) F X₀ ?l ?k ?e ?o ?_; (case l => k_is); (case k => k_keys); (case e => rfl); (case o => decide); exact h)
theorem reckon_item {value slice : PySem.Expr} {Q : Value → Shared → Prop} (hp : p = 1 ∨ p = 2 ∨ p = 5 ∨ p = 6) (F : Fr h₀ L s.heap m) (X₀ : (hd.heap_39 w.params).In h₀)
    (h : ∀ t', Q (.bytes (opB (opC p)) t') s)
    (hs : ∀ i : Int, subscripted slice false (.ref 182) (.int i t) = operate [.ref 182, .int i t] (getItem (.ref 182) (.int i t))) :
    wpAny (model prog w) A (subscriptTail value slice (.ref 182) (.int p t)) Q E s := by
  w_top off
  rcases hp with rfl | rfl | rfl | rfl <;> (refine' topList_K F X₀ ?l ?a ?b ?d ?_ (hs _); (case l => k_is); (case a => decide); (case b => decide); (case d => rfl); exact h _)
end

/-- the operation c of x and y at the limits l is R, whatever stands beside -/
def ArithIs (prog : Program) (w : World) (news : List (Addr × Obj)) (c x y R : Int) (l : Addr) : Prop :=
  ∀ news' t0 t1 t2, (∀ q ∈ news, q ∈ news') → Claim prog w 6 132 news' [.bytes (opB c) t0, .int x t1, .int y t2, .ref l] (fun r => ∃ t, r = .int R t)
theorem ArithIs.at {prog : Program} {w : World} {news news' : List (Addr × Obj)} {c x y R : Int} {l : Addr} {t0 t1 t2 : Tok} (h : ArithIs prog w news c x y R l) (g : ∀ q ∈ news, q ∈ news') :
    Claim prog w 6 132 news' [.bytes (opB c) t0, .int x t1, .int y t2, .ref l] (fun r => ∃ t, r = .int R t) := h _ _ _ _ g

theorem ite_same {x : Int} {P Q : Prop} (h : Q) : if (x != x) = true then P else Q := by rw [if_neg (by simp)]; exact h

theorem words4 : True := by
  k_with "ite" => ((with_reducible refine ite_same ?_))
  k_with "compareOp NotIn int ref" => ((k_here; (with_reducible show wpAny _ _ (compareOp CmpOp.NotIn (Value.int (opC _) _) (Value.ref 197)) _ _ _); k_dflt (refine' folded_in ?myHolehp ?myHoleF ?myHoleX ?_; (case myHolehp => assumption); (case myHoleF => k_asm); (case myHoleX => k_asm))))
  k_with "subscriptTail Name Name ref int" => ((k_here; (with_reducible show wpAny _ _ (subscriptTail (PySem.Expr.Name (PySem.Str.ofString "ops") _) _ (Value.ref _) (Value.int _ _)) _ _ _); k_dflt (refine' ops_item ?myHoleN ?myHolem ?myHoled ?myHolee ?_ (by with_unfolding_all rfl) (by intro _; with_unfolding_all rfl); (case myHoleN => k_asm); (case myHoled => with_reducible assumption); (case myHolem => k_mem); (case myHolee => rename _ ∨ _ => hp9; rcases hp9 with h9 | h9 | h9 | h9 <;> (subst h9; exact ⟨_, rfl⟩)); intro t8)))
  k_with "subscriptTail" => ((k_here; (with_reducible show wpAny _ _ (subscriptTail _ _ (Value.ref 197) (Value.int (opC _) _)) _ _ _); k_dflt (refine' folded_item ?myHolehp ?myHoleF ?myHoleX ?_ (by with_unfolding_all rfl); (case myHolehp => assumption); (case myHoleF => k_asm); (case myHoleX => k_asm); intro t8)))
  k_with "subscriptTail" => ((k_here; (with_reducible show wpAny _ _ (subscriptTail _ _ (Value.ref 182) (Value.int _ _)) _ _ _); k_dflt (refine' reckon_item ?myHolehp ?myHoleF ?myHoleX ?_ (by intro _; with_unfolding_all rfl); (case myHolehp => assumption); (case myHoleF => k_asm); (case myHoleX => k_asm); intro t8)))
  k_with "call ref" => ((k_here; (with_reducible show wpAny _ _ (call (Value.ref 189) [Value.int _ _, Value.int _ _, Value.int _ _]) _ _ _); k_dflt (refine' Claim.useV (nores_c _ _ _ _ _ _ _ _ _ ?myHolek3 ?myHolek4 ?myHolek5) ?myHolekB ?myHolekF ?myHolekX ?myHolekN ?myHolekT ?myHolekK ?myHolekd ?myHoleku ?_; (case myHolek3 => first | with_reducible assumption | omega); (case myHolek4 => first | with_reducible assumption | omega); (case myHolek5 => assumption); (case myHolekB => k_asm); (case myHolekF => k_asm); (case myHolekX => k_asm); (case myHolekN => k_asm); (case myHolekT => k_asm); (case myHolekK => first | exact rfl | assumption); (case myHolekd => ktr_room); (case myHoleku => ktr_units); intro h9 tk9 F9 N9; (try dsimp only); (try k_fold))))
  k_with "call ref" => ((k_here; (with_reducible show wpAny _ _ (call (Value.ref 181) [Value.int _ _, Value.ref _]) _ _ _); k_dflt (refine' Claim.useV (number_c _ _ _ _ _ _) ?myHolekB ?myHolekF ?myHolekX ?myHolekN ?myHolekT ?myHolekK ?myHolekd ?myHoleku ?_; (case myHolekB => k_asm); (case myHolekF => k_asm); (case myHolekX => k_asm); (case myHolekN => k_asm); (case myHolekT => k_asm); (case myHolekK => first | exact rfl | assumption); (case myHolekd => ktr_room); (case myHoleku => ktr_units); intro h9 tk9 F9 N9; (try dsimp only); (try k_fold))))
  k_with "call ref" => ((k_here; (with_reducible show wpAny _ _ (call (Value.ref 132) [Value.bytes (opB _) _, Value.int _ _, Value.int _ _, Value.ref _]) _ _ _); k_dflt (refine' Claim.useI (ArithIs.at ?myHoleha ?myHolehs) ?myHolekB ?myHolekF ?myHolekX ?myHolekN ?myHolekT ?myHolekK ?myHolekd ?myHoleku ?_; (case myHoleha => with_reducible assumption); (case myHolekB => k_asm); (case myHolekF => k_asm); (case myHolekX => k_asm); (case myHolekN => k_asm); (case myHolehs => intro p9 h9; repeat (first | exact h9 | refine List.mem_cons_of_mem _ ?_)); (case myHolekT => k_asm); (case myHolekK => first | exact rfl | assumption); (case myHolekd => ktr_room); (case myHoleku => ktr_units); intro t9 h9 tk9 F9 N9; (try dsimp only); (try k_fold))))
  trivial
set_option maxRecDepth 100000 in
set_option maxHeartbeats 8000000 in
theorem made_g (prog : Program) (w : World) (news : List (Addr × Obj)) (l : Addr) (p x y R : Int) (t0 t1 t2 : Tok) (hp : p = 1 ∨ p = 2 ∨ p = 5 ∨ p = 6) (hy : p = 5 → 0 ≤ y)
    (ha : ArithIs prog w news (opC p) x y R l) :
    Claim prog w 10 225 news [.int p t0, .int x t1, .int y t2, .ref l] (fun r => ∃ t, r = .int R t) := by
  w_top off
  intro loose mean mg mb dp un gd cn cs a ccd cl outer A₀ base h₀ L m s Q E B F X N T hk hd hu hret
  refine wpAny_call ?_
  k_dflt cell_enter
  k_steps
  exact hret _ _ _ (by with_reducible assumption) (by first | with_reducible assumption | (refine' cb_drop ?cbN ?cbS; (case cbN => with_reducible assumption); (case cbS => intro p9 h9; repeat (first | exact h9 | refine List.mem_cons_of_mem _ ?_)))) ⟨_, rfl⟩

theorem made_mul (prog : Program) (w : World) (news : List (Addr × Obj)) (l ld : Addr) (es : List DictEntry) (ne : Nat) (x y k : Int) (t0 t1 t2 t3 : Tok) (hk3 : 3 ≤ k) (hk64 : k ≤ 64)
    (hl : (l, instObj 53 ld) ∈ news) (hld : (ld, dictOf es ne) ∈ news) (hw : getL "width" es = some (some (.int k t3)))
    (hx : -9223372036854775808 ≤ x) (hx2 : x ≤ 9223372036854775807) (hy : -9223372036854775808 ≤ y) (hy2 : y ≤ 9223372036854775807) :
    Claim prog w 10 225 news [.int 2 t0, .int x t1, .int y t2, .ref l] (fun r => ∃ t, r = .int (wrapI (x * y) k) t) :=
  made_g prog w news l 2 x y (wrapI (x * y) k) t0 t1 t2 (by decide) (fun h => absurd h (by decide)) fun news' u0 u1 u2 g => arith_mul prog w news' l ld es ne x y k u0 u1 u2 t3 hk3 hk64 (g _ hl) (g _ hld) hw hx hx2 hy hy2
theorem made_sub (prog : Program) (w : World) (news : List (Addr × Obj)) (l ld : Addr) (es : List DictEntry) (ne : Nat) (x y k : Int) (t0 t1 t2 t3 : Tok) (hk3 : 3 ≤ k) (hk64 : k ≤ 64)
    (hl : (l, instObj 53 ld) ∈ news) (hld : (ld, dictOf es ne) ∈ news) (hw : getL "width" es = some (some (.int k t3)))
    (hx : -9223372036854775808 ≤ x) (hx2 : x ≤ 9223372036854775807) (hy : -9223372036854775808 ≤ y) (hy2 : y ≤ 9223372036854775807) :
    Claim prog w 10 225 news [.int 1 t0, .int x t1, .int y t2, .ref l] (fun r => ∃ t, r = .int (wrapI (x - y) k) t) :=
  made_g prog w news l 1 x y (wrapI (x - y) k) t0 t1 t2 (by decide) (fun h => absurd h (by decide)) fun news' u0 u1 u2 g => arith_sub prog w news' l ld es ne x y k u0 u1 u2 t3 hk3 hk64 (g _ hl) (g _ hld) hw hx hx2 hy hy2
theorem made_pow (prog : Program) (w : World) (news : List (Addr × Obj)) (l ld : Addr) (es : List DictEntry) (ne : Nat) (x y k : Int) (t0 t1 t2 t3 : Tok) (hk3 : 3 ≤ k) (hk64 : k ≤ 64)
    (hl : (l, instObj 53 ld) ∈ news) (hld : (ld, dictOf es ne) ∈ news) (hw : getL "width" es = some (some (.int k t3)))
    (hx : -9223372036854775808 ≤ x) (hx2 : x ≤ 9223372036854775807) (hy : 0 ≤ y) (hy2 : y ≤ 9223372036854775807) :
    Claim prog w 10 225 news [.int 5 t0, .int x t1, .int y t2, .ref l] (fun r => ∃ t, r = .int (wrapI (x ^ y.toNat) k) t) :=
  made_g prog w news l 5 x y (wrapI (x ^ y.toNat) k) t0 t1 t2 (by decide) (fun _ => hy) fun news' u0 u1 u2 g => arith_pow prog w news' l ld es ne x y k u0 u1 u2 t3 hk3 hk64 (g _ hl) (g _ hld) hw hx hx2 hy hy2
theorem made_unm (prog : Program) (w : World) (news : List (Addr × Obj)) (l ld : Addr) (es : List DictEntry) (ne : Nat) (x y k : Int) (t0 t1 t2 t3 : Tok) (hk3 : 3 ≤ k) (hk64 : k ≤ 64)
    (hl : (l, instObj 53 ld) ∈ news) (hld : (ld, dictOf es ne) ∈ news) (hw : getL "width" es = some (some (.int k t3)))
    (hx : -9223372036854775808 ≤ x) (hx2 : x ≤ 9223372036854775807) (hy : -9223372036854775808 ≤ y) (hy2 : y ≤ 9223372036854775807) :
    Claim prog w 10 225 news [.int 6 t0, .int x t1, .int y t2, .ref l] (fun r => ∃ t, r = .int (wrapI (-x) k) t) :=
  made_g prog w news l 6 x y (wrapI (-x) k) t0 t1 t2 (by decide) (fun h => absurd h (by decide)) fun news' u0 u1 u2 g => arith_unm prog w news' l ld es ne x y k u0 u1 u2 t3 hk3 hk64 (g _ hl) (g _ hld) hw hx hx2 hy hy2

/-- the inverse of an odd number of the width k -/
noncomputable def invI (a k : Int) : Int := wrapI (a ^ (2 ^ (k.toNat - 2) - 1)) k

theorem inv_in (a k : Int) : InW k (invI a k) := wrap_in _ _
theorem odd_pow_w {a k : Int} (hk : 3 ≤ k) (h : a % 2 = 1) : Cg (2 ^ k.toNat) (a ^ (2 ^ (k.toNat - 2))) 1 := by
  have g := odd_pow h (k.toNat - 3)
  have e1 : k.toNat - 3 + 3 = k.toNat := by omega
  have e2 : k.toNat - 3 + 1 = k.toNat - 2 := by omega
  rw [e1, e2] at g
  exact g
theorem inv_cg {a k : Int} (hk : 3 ≤ k) (h : a % 2 = 1) : Cg (2 ^ k.toNat) (a * invI a k) 1 := by
  have g1 : Cg (2 ^ k.toNat) (a * invI a k) (a * a ^ (2 ^ (k.toNat - 2) - 1)) := (Cg.refl _ _).mul (wrap_cg _ _)
  have hp : 0 < 2 ^ (k.toNat - 2) := Nat.two_pow_pos _
  have e : a * a ^ (2 ^ (k.toNat - 2) - 1) = a ^ (2 ^ (k.toNat - 2)) := by
    rw [Int.mul_comm, ← Int.pow_succ]; congr 1; omega
  rw [e] at g1
  exact g1.trans (odd_pow_w hk h)
theorem inv_is {a k x : Int} (hk : 3 ≤ k) (h : a % 2 = 1) (hx : InW k x) (hc : Cg (2 ^ k.toNat) (a * x) 1) : x = invI a k :=
  in_unique hx (inv_in a k) (inv_unique hc (inv_cg hk h))
theorem cg_odd {k a x : Int} (hk : 3 ≤ k) (hc : Cg (2 ^ k.toNat) (a * x) 1) : x % 2 = 1 := by
  obtain ⟨c, hc⟩ := hc
  have e : k.toNat = (k.toNat - 1) + 1 := by omega
  rw [e, pw_succ] at hc
  rcases (show x % 2 = 1 ∨ x % 2 = 0 by omega) with g | g
  · exact g
  · exfalso
    obtain ⟨y, rfl⟩ : ∃ y, x = 2 * y := ⟨x / 2, by omega⟩
    have e1 : a * (2 * y) = 2 * (a * y) := by grind
    rw [e1, Int.mul_assoc] at hc
    omega
theorem inv_odd {a k : Int} (hk : 3 ≤ k) (h : a % 2 = 1) : invI a k % 2 = 1 := cg_odd hk (inv_cg hk h)
theorem inv_inv {a k : Int} (hk : 3 ≤ k) (h : a % 2 = 1) (ha : InW k a) : invI (invI a k) k = a := by
  refine (inv_is hk (inv_odd hk h) ha ?_).symm
  rw [Int.mul_comm]
  exact inv_cg hk h
theorem wrap_odd {n k : Int} (hk : 3 ≤ k) (h : n % 2 = 1) : wrapI n k % 2 = 1 := by
  obtain ⟨c, hc⟩ := wrap_cg n k
  have e : k.toNat = (k.toNat - 1) + 1 := by omega
  rw [e, pw_succ, Int.mul_assoc] at hc
  omega
theorem odd_mul {a b : Int} (ha : a % 2 = 1) (hb : b % 2 = 1) : (a * b) % 2 = 1 := by
  rw [Int.mul_emod, ha, hb]; decide
theorem inv_mul {a b k : Int} (hk : 3 ≤ k) (ha : a % 2 = 1) (hb : b % 2 = 1) : invI (wrapI (a * b) k) k = wrapI (invI a k * invI b k) k := by
  refine (inv_is hk (wrap_odd hk (odd_mul ha hb)) (wrap_in _ _) ?_).symm
  have g1 : Cg (2 ^ k.toNat) (wrapI (a * b) k * wrapI (invI a k * invI b k) k) (a * b * (invI a k * invI b k)) := (wrap_cg _ _).mul (wrap_cg _ _)
  have g2 : Cg (2 ^ k.toNat) (a * invI a k * (b * invI b k)) (1 * 1) := (inv_cg hk ha).mul (inv_cg hk hb)
  have e : a * b * (invI a k * invI b k) = a * invI a k * (b * invI b k) := by grind
  rw [e] at g1
  exact g1.trans g2
theorem toNat_two {k : Int} (hk : 3 ≤ k) : (k - 2).toNat = k.toNat - 2 := by omega
theorem inv_pow {a k : Int} (hk : 3 ≤ k) : wrapI (a ^ (1 * 2 ^ (k - 2).toNat - 1 : Int).toNat) k = invI a k := by
  unfold invI
  have e : (1 * 2 ^ (k - 2).toNat - 1 : Int).toNat = 2 ^ (k.toNat - 2) - 1 := by
    rw [Int.one_mul, toNat_two hk, ← kbt_cast]
    exact Int.toNat_sub _ 1
  rw [e]

/-- between the turns of the inverse's loop -/
def InvP (k a : Int) (n : Nat) (x r : Int) : Prop :=
  r = 3 * 2 ^ n ∧ (n = 0 ∨ 3 * 2 ^ (n - 1) < k) ∧ InW k x ∧ Cg (2 ^ min r.toNat k.toNat) (a * x) 1

theorem invp_start {k a : Int} (hk : 3 ≤ k) (h : a % 2 = 1) (ha : InW k a) : InvP k a 0 a 3 := by
  refine ⟨by decide, .inl rfl, ha, ?_⟩
  have e : min (3 : Int).toNat k.toNat = 3 := by omega
  rw [e]
  exact odd_sq h
/-- the first look at the product -/
theorem invp_look1 {k a x : Int} : (a * x - wrapI (a * x) k).fmod (1 * 2 ^ k.toNat) = 0 := by
  rw [Int.one_mul]
  exact (wrap_cg (a * x) k).symm.fmod (Int.le_of_lt (pw_pos _))
theorem min_pow (r k : Int) : (min r k).toNat = min r.toNat k.toNat := by
  rcases Int.le_total r k with h | h
  · rw [Int.min_eq_left h, Nat.min_eq_left (Int.toNat_le_toNat h)]
  · rw [Int.min_eq_right h, Nat.min_eq_right (Int.toNat_le_toNat h)]
theorem invp_prod {k a x r : Int} {n : Nat} (h : InvP k a n x r) : Cg (2 ^ (min r k).toNat) (wrapI (a * x) k) 1 := by
  rw [min_pow]
  exact ((wrap_cg (a * x) k).low (Nat.min_le_right _ _)).trans h.2.2.2
theorem min_is (r k : Int) : (if k < r then k else r) = min r k := by split <;> omega
theorem invp_look2 {k a x r : Int} {n : Nat} (h : InvP k a n x r) : (wrapI (a * x) k - 1).fmod (1 * 2 ^ (if k < r then k else r).toNat) = 0 := by
  rw [Int.one_mul, min_is]
  exact (invp_prod h).fmod (Int.le_of_lt (pw_pos _))
theorem invp_full {k a x r : Int} {n : Nat} (hk : 3 ≤ k) (h : InvP k a n x r) (hr : k ≤ r) : wrapI (a * x) k = 1 := by
  have g := invp_prod h
  have e : min r k = k := by omega
  rw [e] at g
  exact in_unique (wrap_in _ _) (in_one hk) g
theorem invp_out {k a x r : Int} {n : Nat} (hk : 3 ≤ k) (ha : a % 2 = 1) (h : InvP k a n x r) (hr : k ≤ r) : x = invI a k := by
  refine inv_is hk ha h.2.2.1 ?_
  have e : min r.toNat k.toNat = k.toNat := by omega
  have g := h.2.2.2
  rw [e] at g
  exact g
theorem invp_turn {k a x r : Int} {n : Nat} (h : InvP k a n x r) (hr : ¬ k ≤ r) : InvP k a (n + 1) (wrapI (x * wrapI (2 - wrapI (a * x) k) k) k) (2 * r) := by
  obtain ⟨h1, h2, h3, h4⟩ := h
  refine ⟨?_, .inr ?_, wrap_in _ _, ?_⟩
  · rw [h1, Int.pow_succ]; omega
  · rw [Nat.add_sub_cancel, ← h1]; omega
  · have e : (2 * r).toNat = 2 * r.toNat := by omega
    rw [e]
    refine newton (x := x) (p := wrapI (a * x) k) rfl (wrap_cg _ _) ?_ h4
    exact (wrap_cg _ _).trans ((Cg.refl _ _).mul (wrap_cg _ _))
theorem invp_bound {k a x r : Int} {n : Nat} (h : InvP k a n x r) (hn : n ≤ 6) : 3 ≤ r ∧ r ≤ 192 := by
  have h1 := h.1
  have h2 : (2 : Int) ^ n ≤ 2 ^ 6 := pw_le hn
  have h3 := pw_pos n
  have e : (2 : Int) ^ 6 = 64 := by decide
  omega
theorem invp_never {k a x r : Int} {n : Nat} (hk : k ≤ 64) (h : InvP k a n x r) (hn : n = 6) : False := by
  subst hn
  rcases h.2.1 with g | g
  · cases g
  · have e : (2 : Int) ^ (6 - 1) = 32 := by decide
    rw [e] at g
    omega

theorem invp_end {k a x r : Int} {t : Tok} {n : Nat} (hk : 3 ≤ k) (ha : a % 2 = 1) (h : InvP k a n x r) (hr : k ≤ r) : ∃ t', Value.int x t = Value.int (invI a k) t' := ⟨t, by rw [← invp_out hk ha h hr]⟩

/-- between the turns of the squarings -/
def SqP (k : Int) (n : Nat) (a : Int) : Prop := InW k a ∧ ((n = 0 ∧ a % 2 = 1) ∨ (1 ≤ n ∧ Cg (2 ^ min (n + 2) k.toNat) a 1))

theorem sqp_start {k a : Int} (h : a % 2 = 1) (ha : InW k a) : SqP k 0 a := ⟨ha, .inl ⟨rfl, h⟩⟩
theorem sqp_cg {k a : Int} {n : Nat} (hk : 3 ≤ k) (h : SqP k n a) : Cg (2 ^ min (n + 3) k.toNat) (wrapI (a * a) k) 1 := by
  refine ((wrap_cg (a * a) k).low (Nat.min_le_right _ _)).trans ?_
  rcases h.2 with ⟨g1, g2⟩ | ⟨g1, g2⟩
  · subst g1
    exact (odd_sq g2).low (by omega)
  · exact (sq_step (by omega) g2).low (by omega)
theorem sqp_turn {k a : Int} {n : Nat} (hk : 3 ≤ k) (h : SqP k n a) : SqP k (n + 1) (wrapI (a * a) k) := ⟨wrap_in _ _, .inr ⟨by omega, sqp_cg hk h⟩⟩
theorem sqp_look {k a t : Int} {n : Nat} (hk : 3 ≤ k) (h : SqP k n a) (ht : t = (n : Int)) : (wrapI (a * a) k - 1).fmod (1 * 2 ^ (if k < t + 3 then k else t + 3).toNat) = 0 := by
  subst ht
  rw [Int.one_mul, min_is]
  have e : (min ((n : Int) + 3) k).toNat = min (n + 3) k.toNat := min_pow _ _
  rw [e]
  exact (sqp_cg hk h).fmod (Int.le_of_lt (pw_pos _))
theorem sqp_end {k a : Int} {n : Nat} (hk : 3 ≤ k) (h : SqP k n a) (hn : (n : Int) = k - 2) : a = 1 := by
  obtain ⟨h1, h2⟩ := h
  rcases h2 with ⟨g1, _⟩ | ⟨_, g2⟩
  · omega
  · have e : min (n + 2) k.toNat = k.toNat := by omega
    rw [e] at g2
    exact in_unique h1 (in_one hk) g2

-- the numbers drawn
noncomputable def leftI (n k : Int) : Int := (n + 1 * 2 ^ (k - 1).toNat).fmod (2 * (1 * 2 ^ (k - 1).toNat)) - 1 * 2 ^ (k - 1).toNat
theorem left_wrap {n k : Int} (hk : 3 ≤ k) : leftI n k = wrapI n k := by
  have e := pw_half (k := k) (by omega)
  have hp := pw_pos (k - 1).toNat
  have hq := pw_pos k.toNat
  unfold leftI
  rw [Int.one_mul, ← e, Int.fmod_eq_emod_of_nonneg _ (Int.le_of_lt hq)]
  refine in_unique ?_ (wrap_in n k) ?_
  · have h0 := Int.emod_nonneg (n + 2 ^ (k - 1).toNat) (Int.ne_of_gt hq)
    have h1 := Int.emod_lt_of_pos (n + 2 ^ (k - 1).toNat) hq
    unfold InW
    omega
  · refine Cg.trans ?_ (wrap_cg n k).symm
    have g := Int.mul_ediv_add_emod (n + 2 ^ (k - 1).toNat) (2 ^ k.toNat)
    exact ⟨-((n + 2 ^ (k - 1).toNat) / 2 ^ k.toNat), by grind⟩

theorem made_mul_u (prog : Program) (w : World) (news : List (Addr × Obj)) (l ld : Addr) (es : List DictEntry) (ne : Nat) (x y k : Int) (t0 t1 t2 t3 : Tok) (hk3 : 3 ≤ k) (hk64 : k ≤ 64)
    (hl : (l, instObj 53 ld) ∈ news) (hld : (ld, dictOf es ne) ∈ news) (hw : getL "width" es = some (some (.int k t3)))
    (hx : -9223372036854775808 ≤ x) (hx2 : x ≤ 9223372036854775807) (hy : -9223372036854775808 ≤ y) (hy2 : y ≤ 9223372036854775807) :
    Claim prog w 10 225 news [.int 2 t0, .int x t1, .int y t2, .ref l] (fun r => ∃ t, r = .int (wrapI (x * y) k) t ∧ -9223372036854775808 ≤ wrapI (x * y) k ∧ wrapI (x * y) k ≤ 9223372036854775807) := by
  intro loose mean mg mb dp un gd cn cs a ccd cl outer A₀ base h₀ L m s Q E B F X N T hk hd hu hret
  refine Claim.use (made_mul prog w news l ld es ne x y k t0 t1 t2 t3 hk3 hk64 hl hld hw hx hx2 hy hy2) B F X N T hk hd hu ?_
  rintro r h' tk' F' N' ⟨t, rfl⟩
  exact hret _ h' tk' F' N' ⟨t, rfl, wrap_bound _ hk64⟩
theorem made_sub_u (prog : Program) (w : World) (news : List (Addr × Obj)) (l ld : Addr) (es : List DictEntry) (ne : Nat) (x y k : Int) (t0 t1 t2 t3 : Tok) (hk3 : 3 ≤ k) (hk64 : k ≤ 64)
    (hl : (l, instObj 53 ld) ∈ news) (hld : (ld, dictOf es ne) ∈ news) (hw : getL "width" es = some (some (.int k t3)))
    (hx : -9223372036854775808 ≤ x) (hx2 : x ≤ 9223372036854775807) (hy : -9223372036854775808 ≤ y) (hy2 : y ≤ 9223372036854775807) :
    Claim prog w 10 225 news [.int 1 t0, .int x t1, .int y t2, .ref l] (fun r => ∃ t, r = .int (wrapI (x - y) k) t ∧ -9223372036854775808 ≤ wrapI (x - y) k ∧ wrapI (x - y) k ≤ 9223372036854775807) := by
  intro loose mean mg mb dp un gd cn cs a ccd cl outer A₀ base h₀ L m s Q E B F X N T hk hd hu hret
  refine Claim.use (made_sub prog w news l ld es ne x y k t0 t1 t2 t3 hk3 hk64 hl hld hw hx hx2 hy hy2) B F X N T hk hd hu ?_
  rintro r h' tk' F' N' ⟨t, rfl⟩
  exact hret _ h' tk' F' N' ⟨t, rfl, wrap_bound _ hk64⟩
theorem made_pow_u (prog : Program) (w : World) (news : List (Addr × Obj)) (l ld : Addr) (es : List DictEntry) (ne : Nat) (x y k : Int) (t0 t1 t2 t3 : Tok) (hk3 : 3 ≤ k) (hk64 : k ≤ 64)
    (hl : (l, instObj 53 ld) ∈ news) (hld : (ld, dictOf es ne) ∈ news) (hw : getL "width" es = some (some (.int k t3)))
    (hx : -9223372036854775808 ≤ x) (hx2 : x ≤ 9223372036854775807) (hy : 0 ≤ y) (hy2 : y ≤ 9223372036854775807) :
    Claim prog w 10 225 news [.int 5 t0, .int x t1, .int y t2, .ref l] (fun r => ∃ t, r = .int (wrapI (x ^ y.toNat) k) t ∧ -9223372036854775808 ≤ wrapI (x ^ y.toNat) k ∧ wrapI (x ^ y.toNat) k ≤ 9223372036854775807) := by
  intro loose mean mg mb dp un gd cn cs a ccd cl outer A₀ base h₀ L m s Q E B F X N T hk hd hu hret
  refine Claim.use (made_pow prog w news l ld es ne x y k t0 t1 t2 t3 hk3 hk64 hl hld hw hx hx2 hy hy2) B F X N T hk hd hu ?_
  rintro r h' tk' F' N' ⟨t, rfl⟩
  exact hret _ h' tk' F' N' ⟨t, rfl, wrap_bound _ hk64⟩
theorem made_unm_u (prog : Program) (w : World) (news : List (Addr × Obj)) (l ld : Addr) (es : List DictEntry) (ne : Nat) (x y k : Int) (t0 t1 t2 t3 : Tok) (hk3 : 3 ≤ k) (hk64 : k ≤ 64)
    (hl : (l, instObj 53 ld) ∈ news) (hld : (ld, dictOf es ne) ∈ news) (hw : getL "width" es = some (some (.int k t3)))
    (hx : -9223372036854775808 ≤ x) (hx2 : x ≤ 9223372036854775807) (hy : -9223372036854775808 ≤ y) (hy2 : y ≤ 9223372036854775807) :
    Claim prog w 10 225 news [.int 6 t0, .int x t1, .int y t2, .ref l] (fun r => ∃ t, r = .int (wrapI (-x) k) t ∧ -9223372036854775808 ≤ wrapI (-x) k ∧ wrapI (-x) k ≤ 9223372036854775807) := by
  intro loose mean mg mb dp un gd cn cs a ccd cl outer A₀ base h₀ L m s Q E B F X N T hk hd hu hret
  refine Claim.use (made_unm prog w news l ld es ne x y k t0 t1 t2 t3 hk3 hk64 hl hld hw hx hx2 hy hy2) B F X N T hk hd hu ?_
  rintro r h' tk' F' N' ⟨t, rfl⟩
  exact hret _ h' tk' F' N' ⟨t, rfl, wrap_bound _ hk64⟩

theorem words5 : True := by
  k_with_none
  k_with "k_mem" => (first | exact mem_up (by assumption) | (refine mem_l ?_; k_mem) | (refine mem_r ?_; k_mem))
  k_with "call ref" => ((k_here; (with_reducible show wpAny _ _ (call (Value.ref 225) [Value.int 2 _, Value.int _ _, Value.int _ _, Value.ref _]) _ _ _); k_dflt (refine' Claim.useI2 (made_mul_u _ _ _ _ _ _ _ _ _ _ _ _ _ _ ?myHolek3 ?myHolek4 ?myHolehl ?myHolehm ?myHolehw ?myHolex1 ?myHolex2 ?myHoley1 ?myHoley2) ?myHolekB ?myHolekF ?myHolekX ?myHolekN ?myHolekT ?myHolekK ?myHolekd ?myHoleku ?_; (case myHolekB => k_asm); (case myHolekF => k_asm); (case myHolekX => k_asm); (case myHolekN => k_asm); (case myHolekT => k_asm); (case myHolekK => first | exact rfl | assumption); (case myHolehl => k_mem); (case myHolehm => k_mem); (case myHolehw => first | assumption | k_get); (case myHolek3 => first | with_reducible assumption | omega); (case myHolek4 => first | with_reducible assumption | omega); (case myHolex1 => first | with_reducible assumption | omega); (case myHolex2 => first | with_reducible assumption | omega); (case myHoley1 => first | with_reducible assumption | omega); (case myHoley2 => first | with_reducible assumption | omega); (case myHolekd => ktr_room); (case myHoleku => ktr_units); intro t9 h9 tk9 F9 N9 lo9 hi9; (try dsimp only); (try k_fold))))
  k_with "call ref" => ((k_here; (with_reducible show wpAny _ _ (call (Value.ref 225) [Value.int 1 _, Value.int _ _, Value.int _ _, Value.ref _]) _ _ _); k_dflt (refine' Claim.useI2 (made_sub_u _ _ _ _ _ _ _ _ _ _ _ _ _ _ ?myHolek3 ?myHolek4 ?myHolehl ?myHolehm ?myHolehw ?myHolex1 ?myHolex2 ?myHoley1 ?myHoley2) ?myHolekB ?myHolekF ?myHolekX ?myHolekN ?myHolekT ?myHolekK ?myHolekd ?myHoleku ?_; (case myHolekB => k_asm); (case myHolekF => k_asm); (case myHolekX => k_asm); (case myHolekN => k_asm); (case myHolekT => k_asm); (case myHolekK => first | exact rfl | assumption); (case myHolehl => k_mem); (case myHolehm => k_mem); (case myHolehw => first | assumption | k_get); (case myHolek3 => first | with_reducible assumption | omega); (case myHolek4 => first | with_reducible assumption | omega); (case myHolex1 => first | with_reducible assumption | omega); (case myHolex2 => first | with_reducible assumption | omega); (case myHoley1 => first | with_reducible assumption | omega); (case myHoley2 => first | with_reducible assumption | omega); (case myHolekd => ktr_room); (case myHoleku => ktr_units); intro t9 h9 tk9 F9 N9 lo9 hi9; (try dsimp only); (try k_fold))))
  k_with "call ref" => ((k_here; (with_reducible show wpAny _ _ (call (Value.ref 225) [Value.int 5 _, Value.int _ _, Value.int _ _, Value.ref _]) _ _ _); k_dflt (refine' Claim.useI2 (made_pow_u _ _ _ _ _ _ _ _ _ _ _ _ _ _ ?myHolek3 ?myHolek4 ?myHolehl ?myHolehm ?myHolehw ?myHolex1 ?myHolex2 ?myHoley1 ?myHoley2) ?myHolekB ?myHolekF ?myHolekX ?myHolekN ?myHolekT ?myHolekK ?myHolekd ?myHoleku ?_; (case myHolekB => k_asm); (case myHolekF => k_asm); (case myHolekX => k_asm); (case myHolekN => k_asm); (case myHolekT => k_asm); (case myHolekK => first | exact rfl | assumption); (case myHolehl => k_mem); (case myHolehm => k_mem); (case myHolehw => first | assumption | k_get); (case myHolek3 => first | with_reducible assumption | omega); (case myHolek4 => first | with_reducible assumption | omega); (case myHolex1 => first | with_reducible assumption | omega); (case myHolex2 => first | with_reducible assumption | omega); (case myHoley1 => first | with_reducible assumption | omega); (case myHoley2 => first | with_reducible assumption | omega); (case myHolekd => ktr_room); (case myHoleku => ktr_units); intro t9 h9 tk9 F9 N9 lo9 hi9; (try dsimp only); (try k_fold))))
  k_with "call ref" => ((k_here; (with_reducible show wpAny _ _ (call (Value.ref 225) [Value.int 6 _, Value.int _ _, Value.int _ _, Value.ref _]) _ _ _); k_dflt (refine' Claim.useI2 (made_unm_u _ _ _ _ _ _ _ _ _ _ _ _ _ _ ?myHolek3 ?myHolek4 ?myHolehl ?myHolehm ?myHolehw ?myHolex1 ?myHolex2 ?myHoley1 ?myHoley2) ?myHolekB ?myHolekF ?myHolekX ?myHolekN ?myHolekT ?myHolekK ?myHolekd ?myHoleku ?_; (case myHolekB => k_asm); (case myHolekF => k_asm); (case myHolekX => k_asm); (case myHolekN => k_asm); (case myHolekT => k_asm); (case myHolekK => first | exact rfl | assumption); (case myHolehl => k_mem); (case myHolehm => k_mem); (case myHolehw => first | assumption | k_get); (case myHolek3 => first | with_reducible assumption | omega); (case myHolek4 => first | with_reducible assumption | omega); (case myHolex1 => first | with_reducible assumption | omega); (case myHolex2 => first | with_reducible assumption | omega); (case myHoley1 => first | with_reducible assumption | omega); (case myHoley2 => first | with_reducible assumption | omega); (case myHolekd => ktr_room); (case myHoleku => ktr_units); intro t9 h9 tk9 F9 N9 lo9 hi9; (try dsimp only); (try k_fold))))
  trivial
theorem drop_up {α : Type} {a : α} {l l' : List α} : ∀ p ∈ l, p ∈ a :: (l ++ l') := fun _ h => List.mem_cons_of_mem _ (List.mem_append.mpr (.inl h))
theorem inv_w0 {k a : Int} (hk : 3 ≤ k) (h : a % 2 = 1) (ha : InW k a) (hk64 : k ≤ 64) :
    (-9223372036854775808 ≤ a ∧ a ≤ 9223372036854775807) ∧ (3 ≤ (3 : Int) ∧ (3 : Int) ≤ 192) ∧ InvP k a 0 a 3 :=
  ⟨in_bound ha hk64, ⟨by decide, by decide⟩, invp_start hk h ha⟩
theorem inv_w1 {k a x r j : Int} {pre : List Int} (h : InvP k a pre.length x r) (hk64 : k ≤ 64) (hr : ¬ k ≤ r) (hn : pre.length < 6) :
    (-9223372036854775808 ≤ wrapI (x * wrapI (2 - wrapI (a * x) k) k) k ∧ wrapI (x * wrapI (2 - wrapI (a * x) k) k) k ≤ 9223372036854775807) ∧ (3 ≤ 2 * r ∧ 2 * r ≤ 192) ∧ InvP k a (pre ++ [j]).length (wrapI (x * wrapI (2 - wrapI (a * x) k) k) k) (2 * r) := by
  have g := invp_turn h hr
  rw [List.length_append, List.length_singleton]
  exact ⟨wrap_bound _ hk64, invp_bound g (by omega), g⟩

set_option maxRecDepth 100000 in
set_option maxHeartbeats 8000000 in
theorem inverse_c (prog : Program) (w : World) (news : List (Addr × Obj)) (l ld : Addr) (es : List DictEntry) (ne : Nat) (x k : Int) (t0 t1 t3 : Tok) (hk3 : 3 ≤ k) (hk64 : k ≤ 64)
    (hl : (l, instObj 53 ld) ∈ news) (hld : (ld, dictOf es ne) ∈ news) (hw : getL "width" es = some (some (.int k t3)))
    (hx : InW k x) (hodd : x % 2 = 1) :
    Claim prog w 14 232 news [.int x t0, .int k t1, .ref l] (fun r => ∃ t, r = .int (invI x k) t) := by
  w_top off
  k_with "state" => first | exact inv_w0 hk3 hodd hx hk64 | exact inv_w1 (by assumption) hk64 (by assumption) (by omega)
  k_with "pyIter ref" => k_dflt (k_state_short (fun pre y r => (-9223372036854775808 ≤ y ∧ y ≤ 9223372036854775807) ∧ (3 ≤ r ∧ r ≤ 192) ∧ InvP k x pre.length y r) "x" "right")
  have hxb := in_bound hx hk64
  intro loose mean mg mb dp un gd cn cs a ccd cl outer A₀ base h₀ L m s Q E B F X N T hk hd hu hret
  refine wpAny_call ?_
  k_dflt cell_enter
  k_steps
  · exact absurd invp_look1 (by with_reducible assumption)
  · exact absurd (invp_look2 (by with_reducible assumption)) (by with_reducible assumption)
  · exact hret _ _ _ (by with_reducible assumption) (by refine' cb_drop ?cbN ?cbS; (case cbN => with_reducible assumption); (case cbS => exact drop_up)) (invp_end hk3 hodd (by with_reducible assumption) (by with_reducible assumption))
  · exact absurd (invp_full hk3 (by with_reducible assumption) (by with_reducible assumption)) (by with_reducible assumption)
  · exact (invp_never hk64 (by with_reducible assumption) (by decide)).elim

theorem words6 : True := by
  k_with_none
  k_with "k_mem" => (first | exact mem_up (by assumption) | (refine mem_l ?_; k_mem) | (refine mem_r ?_; k_mem))
  k_with "call ref" => ((k_here; (with_reducible show wpAny _ _ (call (Value.ref 225) [Value.int 2 _, Value.int _ _, Value.int _ _, Value.ref _]) _ _ _); k_dflt (refine' Claim.useI2 (made_mul_u _ _ _ _ _ _ _ _ _ _ _ _ _ _ ?myHolek3 ?myHolek4 ?myHolehl ?myHolehm ?myHolehw ?myHolex1 ?myHolex2 ?myHoley1 ?myHoley2) ?myHolekB ?myHolekF ?myHolekX ?myHolekN ?myHolekT ?myHolekK ?myHolekd ?myHoleku ?_; (case myHolekB => k_asm); (case myHolekF => k_asm); (case myHolekX => k_asm); (case myHolekN => k_asm); (case myHolekT => k_asm); (case myHolekK => first | exact rfl | assumption); (case myHolehl => k_mem); (case myHolehm => k_mem); (case myHolehw => first | assumption | k_get); (case myHolek3 => first | with_reducible assumption | omega); (case myHolek4 => first | with_reducible assumption | omega); (case myHolex1 => first | with_reducible assumption | omega); (case myHolex2 => first | with_reducible assumption | omega); (case myHoley1 => first | with_reducible assumption | omega); (case myHoley2 => first | with_reducible assumption | omega); (case myHolekd => ktr_room); (case myHoleku => ktr_units); intro t9 h9 tk9 F9 N9 lo9 hi9; (try dsimp only); (try k_fold))))
  k_with "call ref" => ((k_here; (with_reducible show wpAny _ _ (call (Value.ref 225) [Value.int 1 _, Value.int _ _, Value.int _ _, Value.ref _]) _ _ _); k_dflt (refine' Claim.useI2 (made_sub_u _ _ _ _ _ _ _ _ _ _ _ _ _ _ ?myHolek3 ?myHolek4 ?myHolehl ?myHolehm ?myHolehw ?myHolex1 ?myHolex2 ?myHoley1 ?myHoley2) ?myHolekB ?myHolekF ?myHolekX ?myHolekN ?myHolekT ?myHolekK ?myHolekd ?myHoleku ?_; (case myHolekB => k_asm); (case myHolekF => k_asm); (case myHolekX => k_asm); (case myHolekN => k_asm); (case myHolekT => k_asm); (case myHolekK => first | exact rfl | assumption); (case myHolehl => k_mem); (case myHolehm => k_mem); (case myHolehw => first | assumption | k_get); (case myHolek3 => first | with_reducible assumption | omega); (case myHolek4 => first | with_reducible assumption | omega); (case myHolex1 => first | with_reducible assumption | omega); (case myHolex2 => first | with_reducible assumption | omega); (case myHoley1 => first | with_reducible assumption | omega); (case myHoley2 => first | with_reducible assumption | omega); (case myHolekd => ktr_room); (case myHoleku => ktr_units); intro t9 h9 tk9 F9 N9 lo9 hi9; (try dsimp only); (try k_fold))))
  k_with "call ref" => ((k_here; (with_reducible show wpAny _ _ (call (Value.ref 225) [Value.int 5 _, Value.int _ _, Value.int _ _, Value.ref _]) _ _ _); k_dflt (refine' Claim.useI2 (made_pow_u _ _ _ _ _ _ _ _ _ _ _ _ _ _ ?myHolek3 ?myHolek4 ?myHolehl ?myHolehm ?myHolehw ?myHolex1 ?myHolex2 ?myHoley1 ?myHoley2) ?myHolekB ?myHolekF ?myHolekX ?myHolekN ?myHolekT ?myHolekK ?myHolekd ?myHoleku ?_; (case myHolekB => k_asm); (case myHolekF => k_asm); (case myHolekX => k_asm); (case myHolekN => k_asm); (case myHolekT => k_asm); (case myHolekK => first | exact rfl | assumption); (case myHolehl => k_mem); (case myHolehm => k_mem); (case myHolehw => first | assumption | k_get); (case myHolek3 => first | with_reducible assumption | omega); (case myHolek4 => first | with_reducible assumption | omega); (case myHolex1 => first | with_reducible assumption | omega); (case myHolex2 => first | with_reducible assumption | omega); (case myHoley1 => first | with_reducible assumption | omega); (case myHoley2 => first | with_reducible assumption | omega); (case myHolekd => ktr_room); (case myHoleku => ktr_units); intro t9 h9 tk9 F9 N9 lo9 hi9; (try dsimp only); (try k_fold))))
  k_with "call ref" => ((k_here; (with_reducible show wpAny _ _ (call (Value.ref 225) [Value.int 6 _, Value.int _ _, Value.int _ _, Value.ref _]) _ _ _); k_dflt (refine' Claim.useI2 (made_unm_u _ _ _ _ _ _ _ _ _ _ _ _ _ _ ?myHolek3 ?myHolek4 ?myHolehl ?myHolehm ?myHolehw ?myHolex1 ?myHolex2 ?myHoley1 ?myHoley2) ?myHolekB ?myHolekF ?myHolekX ?myHolekN ?myHolekT ?myHolekK ?myHolekd ?myHoleku ?_; (case myHolekB => k_asm); (case myHolekF => k_asm); (case myHolekX => k_asm); (case myHolekN => k_asm); (case myHolekT => k_asm); (case myHolekK => first | exact rfl | assumption); (case myHolehl => k_mem); (case myHolehm => k_mem); (case myHolehw => first | assumption | k_get); (case myHolek3 => first | with_reducible assumption | omega); (case myHolek4 => first | with_reducible assumption | omega); (case myHolex1 => first | with_reducible assumption | omega); (case myHolex2 => first | with_reducible assumption | omega); (case myHoley1 => first | with_reducible assumption | omega); (case myHoley2 => first | with_reducible assumption | omega); (case myHolekd => ktr_room); (case myHoleku => ktr_units); intro t9 h9 tk9 F9 N9 lo9 hi9; (try dsimp only); (try k_fold))))
  trivial
theorem sq_w0 {k a : Int} (h : a % 2 = 1) (ha : InW k a) (hk64 : k ≤ 64) :
    (-9223372036854775808 ≤ a ∧ a ≤ 9223372036854775807) ∧ SqP k 0 a := ⟨in_bound ha hk64, sqp_start h ha⟩
theorem sq_w1 {k a j : Int} {pre : List Int} (hk : 3 ≤ k) (hk64 : k ≤ 64) (h : SqP k pre.length a) :
    (-9223372036854775808 ≤ wrapI (a * a) k ∧ wrapI (a * a) k ≤ 9223372036854775807) ∧ SqP k (pre ++ [j]).length (wrapI (a * a) k) := by
  rw [List.length_append, List.length_singleton]
  exact ⟨wrap_bound _ hk64, sqp_turn hk h⟩
theorem sq_bad {k a t : Int} {n : Nat} (hk : 3 ≤ k) (h : SqP k n a) (hb : (wrapI (a * a) k - 1).fmod (1 * 2 ^ (if k < t + 3 then k else t + 3).toNat) ≠ 0) (ht : t = (n : Int)) : False := hb (sqp_look hk h ht)
theorem sq_out {k a : Int} {n : Nat} (hk : 3 ≤ k) (h : SqP k n a) (hn : (n : Int) = k - 2) : Value.bool (a == 1) = .bool true := by
  rw [sqp_end hk h hn]; rfl

set_option maxRecDepth 100000 in
set_option maxHeartbeats 8000000 in
theorem squares_c (prog : Program) (w : World) (news : List (Addr × Obj)) (l ld : Addr) (es : List DictEntry) (ne : Nat) (x k : Int) (t0 t1 t3 : Tok) (hk3 : 3 ≤ k) (hk64 : k ≤ 64)
    (hl : (l, instObj 53 ld) ∈ news) (hld : (ld, dictOf es ne) ∈ news) (hw : getL "width" es = some (some (.int k t3)))
    (hx : InW k x) (hodd : x % 2 = 1) :
    Claim prog w 14 239 news [.int x t0, .int k t1, .ref l] (fun r => r = .bool true) := by
  w_top off
  k_with "state" => first | exact sq_w0 hodd hx hk64 | exact sq_w1 hk3 hk64 (by assumption)
  k_with "pyIter ref" => k_dflt (k_state (fun pre y => (-9223372036854775808 ≤ y ∧ y ≤ 9223372036854775807) ∧ SqP k pre.length y) "a")
  have hxb := in_bound hx hk64
  intro loose mean mg mb dp un gd cn cs a ccd cl outer A₀ base h₀ L m s Q E B F X N T hk hd hu hret
  refine wpAny_call ?_
  k_dflt cell_enter
  k_steps
  · exact (sq_bad hk3 (by with_reducible assumption) (by with_reducible assumption) (by omega)).elim
  · exact hret _ _ _ (by with_reducible assumption) (by with_reducible assumption) (sq_out hk3 (by with_reducible assumption) (by rw [rangeKs_length]; omega))

/-- the odd numbers as they are made: all so far, and the last power of three -/
noncomputable def oddSt (k : Int) : Nat → List Int × Int
  | 0 => ([], 1)
  | n + 1 => ((oddSt k n).1 ++ [(oddSt k n).2, wrapI (-(oddSt k n).2) k], wrapI ((oddSt k n).2 * 3) k)

/-- all odd numbers of the width k -/
noncomputable def odds (k : Int) : List Int := (List.range (2 ^ (k.toNat - 1) : Nat)).map (fun (n : Nat) => (2 * (n : Int) + 1 - 2 ^ (k.toNat - 1) : Int))

theorem odds_of {k : Int} (h3 : 3 ≤ k) (h6 : k ≤ 6) : ((oddSt k (2 ^ (k.toNat - 2))).1).Perm (odds k) ∧ (odds k).Pairwise (· ≤ ·) ∧ (oddSt k (2 ^ (k.toNat - 2))).1.length ≤ 32 := by
  rcases (show k = 3 ∨ k = 4 ∨ k = 5 ∨ k = 6 by omega) with rfl | rfl | rfl | rfl <;> decide +kernel

theorem odds_sorted {k q last : Int} {found ns : List Int} {n : Nat} (h3 : 3 ≤ k) (h6 : k ≤ 6) (hq : (1 * 2 ^ (k - 2).toNat : Int) = q) (hn : n = (q - 0).toNat) (hf : (found, last) = oddSt k n)
    (hp : ns.Perm found) (hs : ns.Pairwise (· ≤ ·)) : ns = odds k := by
  have e : n = 2 ^ (k.toNat - 2) := by
    rw [hn, ← hq, Int.one_mul, Int.sub_zero, toNat_two h3, ← kbt_cast, Int.toNat_natCast]
  subst e
  have e1 : found = (oddSt k (2 ^ (k.toNat - 2))).1 := by rw [← hf]
  subst e1
  obtain ⟨g1, g2, _⟩ := odds_of h3 h6
  exact (hp.trans g1).eq_of_pairwise (fun _ _ _ _ a b => Int.le_antisymm a b) hs g2

theorem found_short {q : Int} {found : List Int} (h : found.length = 2 * (rangeKs 0 (q - 0).toNat).length) (hq : q ≤ 16) : found.length < 64 := by
  rw [h, rangeKs_length]; omega
theorem pow_small {k : Int} (h3 : 3 ≤ k) (h6 : k ≤ 6) : 2 ≤ (2 : Int) ^ (k - 2).toNat ∧ (2 : Int) ^ (k - 2).toNat ≤ 16 := by
  have h1 : (2 : Int) ^ 1 ≤ 2 ^ (k - 2).toNat := pw_le (by omega)
  have h2 : (2 : Int) ^ (k - 2).toNat ≤ 2 ^ 4 := pw_le (by omega)
  have e1 : (2 : Int) ^ 1 = 2 := by decide
  have e2 : (2 : Int) ^ 4 = 16 := by decide
  omega
theorem odd_w0 {k : Int} : ([] : List Int).length = 2 * 0 ∧ (-9223372036854775808 ≤ (1 : Int) ∧ (1 : Int) ≤ 9223372036854775807) ∧ (([] : List Int), (1 : Int)) = oddSt k 0 :=
  ⟨rfl, ⟨by decide, by decide⟩, rfl⟩
theorem odd_w1 {k : Int} {found : List Int} {last j : Int} {pre : List Int} (hk64 : k ≤ 64) (h1 : found.length = 2 * pre.length) (h : (found, last) = oddSt k pre.length) :
    (found ++ [last, wrapI (-last) k]).length = 2 * (pre ++ [j]).length ∧ (-9223372036854775808 ≤ wrapI (last * 3) k ∧ wrapI (last * 3) k ≤ 9223372036854775807) ∧ (found ++ [last, wrapI (-last) k], wrapI (last * 3) k) = oddSt k (pre ++ [j]).length := by
  refine ⟨?_, wrap_bound _ hk64, ?_⟩
  · simp only [List.length_append, List.length_cons, List.length_nil]; omega
  · rw [List.length_append, List.length_singleton]
    show _ = ((oddSt k pre.length).1 ++ [(oddSt k pre.length).2, wrapI (-(oddSt k pre.length).2) k], wrapI ((oddSt k pre.length).2 * 3) k)
    rw [← h]

theorem words7 : True := by
  k_with_none
  k_with "k_mem" => (first | exact mem_up (by assumption) | (refine mem_l ?_; k_mem) | (refine mem_r ?_; k_mem))
  k_with "call ref" => ((k_here; (with_reducible show wpAny _ _ (call (Value.ref 225) [Value.int 2 _, Value.int _ _, Value.int _ _, Value.ref _]) _ _ _); k_dflt (refine' Claim.useI2 (made_mul_u _ _ _ _ _ _ _ _ _ _ _ _ _ _ ?myHolek3 ?myHolek4 ?myHolehl ?myHolehm ?myHolehw ?myHolex1 ?myHolex2 ?myHoley1 ?myHoley2) ?myHolekB ?myHolekF ?myHolekX ?myHolekN ?myHolekT ?myHolekK ?myHolekd ?myHoleku ?_; (case myHolekB => k_asm); (case myHolekF => k_asm); (case myHolekX => k_asm); (case myHolekN => k_asm); (case myHolekT => k_asm); (case myHolekK => first | exact rfl | assumption); (case myHolehl => k_mem); (case myHolehm => k_mem); (case myHolehw => first | assumption | k_get); (case myHolek3 => first | with_reducible assumption | omega); (case myHolek4 => first | with_reducible assumption | omega); (case myHolex1 => first | with_reducible assumption | omega); (case myHolex2 => first | with_reducible assumption | omega); (case myHoley1 => first | with_reducible assumption | omega); (case myHoley2 => first | with_reducible assumption | omega); (case myHolekd => ktr_room); (case myHoleku => ktr_units); intro t9 h9 tk9 F9 N9 lo9 hi9; (try dsimp only); (try k_fold))))
  k_with "call ref" => ((k_here; (with_reducible show wpAny _ _ (call (Value.ref 225) [Value.int 1 _, Value.int _ _, Value.int _ _, Value.ref _]) _ _ _); k_dflt (refine' Claim.useI2 (made_sub_u _ _ _ _ _ _ _ _ _ _ _ _ _ _ ?myHolek3 ?myHolek4 ?myHolehl ?myHolehm ?myHolehw ?myHolex1 ?myHolex2 ?myHoley1 ?myHoley2) ?myHolekB ?myHolekF ?myHolekX ?myHolekN ?myHolekT ?myHolekK ?myHolekd ?myHoleku ?_; (case myHolekB => k_asm); (case myHolekF => k_asm); (case myHolekX => k_asm); (case myHolekN => k_asm); (case myHolekT => k_asm); (case myHolekK => first | exact rfl | assumption); (case myHolehl => k_mem); (case myHolehm => k_mem); (case myHolehw => first | assumption | k_get); (case myHolek3 => first | with_reducible assumption | omega); (case myHolek4 => first | with_reducible assumption | omega); (case myHolex1 => first | with_reducible assumption | omega); (case myHolex2 => first | with_reducible assumption | omega); (case myHoley1 => first | with_reducible assumption | omega); (case myHoley2 => first | with_reducible assumption | omega); (case myHolekd => ktr_room); (case myHoleku => ktr_units); intro t9 h9 tk9 F9 N9 lo9 hi9; (try dsimp only); (try k_fold))))
  k_with "call ref" => ((k_here; (with_reducible show wpAny _ _ (call (Value.ref 225) [Value.int 5 _, Value.int _ _, Value.int _ _, Value.ref _]) _ _ _); k_dflt (refine' Claim.useI2 (made_pow_u _ _ _ _ _ _ _ _ _ _ _ _ _ _ ?myHolek3 ?myHolek4 ?myHolehl ?myHolehm ?myHolehw ?myHolex1 ?myHolex2 ?myHoley1 ?myHoley2) ?myHolekB ?myHolekF ?myHolekX ?myHolekN ?myHolekT ?myHolekK ?myHolekd ?myHoleku ?_; (case myHolekB => k_asm); (case myHolekF => k_asm); (case myHolekX => k_asm); (case myHolekN => k_asm); (case myHolekT => k_asm); (case myHolekK => first | exact rfl | assumption); (case myHolehl => k_mem); (case myHolehm => k_mem); (case myHolehw => first | assumption | k_get); (case myHolek3 => first | with_reducible assumption | omega); (case myHolek4 => first | with_reducible assumption | omega); (case myHolex1 => first | with_reducible assumption | omega); (case myHolex2 => first | with_reducible assumption | omega); (case myHoley1 => first | with_reducible assumption | omega); (case myHoley2 => first | with_reducible assumption | omega); (case myHolekd => ktr_room); (case myHoleku => ktr_units); intro t9 h9 tk9 F9 N9 lo9 hi9; (try dsimp only); (try k_fold))))
  k_with "call ref" => ((k_here; (with_reducible show wpAny _ _ (call (Value.ref 225) [Value.int 6 _, Value.int _ _, Value.int _ _, Value.ref _]) _ _ _); k_dflt (refine' Claim.useI2 (made_unm_u _ _ _ _ _ _ _ _ _ _ _ _ _ _ ?myHolek3 ?myHolek4 ?myHolehl ?myHolehm ?myHolehw ?myHolex1 ?myHolex2 ?myHoley1 ?myHoley2) ?myHolekB ?myHolekF ?myHolekX ?myHolekN ?myHolekT ?myHolekK ?myHolekd ?myHoleku ?_; (case myHolekB => k_asm); (case myHolekF => k_asm); (case myHolekX => k_asm); (case myHolekN => k_asm); (case myHolekT => k_asm); (case myHolekK => first | exact rfl | assumption); (case myHolehl => k_mem); (case myHolehm => k_mem); (case myHolehw => first | assumption | k_get); (case myHolek3 => first | with_reducible assumption | omega); (case myHolek4 => first | with_reducible assumption | omega); (case myHolex1 => first | with_reducible assumption | omega); (case myHolex2 => first | with_reducible assumption | omega); (case myHoley1 => first | with_reducible assumption | omega); (case myHoley2 => first | with_reducible assumption | omega); (case myHolekd => ktr_room); (case myHoleku => ktr_units); intro t9 h9 tk9 F9 N9 lo9 hi9; (try dsimp only); (try k_fold))))
  trivial
theorem drop_mid {α : Type} {a b c : α} {l : List α} : ∀ p ∈ a :: l, p ∈ a :: b :: c :: l := by
  intro p hp
  rcases List.mem_cons.mp hp with rfl | hp
  · exact .head _
  · exact .tail _ (.tail _ (.tail _ hp))
section
variable {prog : Program} {w : World} {A : Around} {E : Value → Shared → Prop} {s : Shared} {h₀ h : Heap} {L D b : Addr} {m : Str → Option Value} {news news' : List (Addr × Obj)} {vs : List Value} {x y : Value} {n n2 : Nat}
theorem extend_two {Q : Value → Shared → Prop} (F : Fr h₀ L s.heap m) (N : News h₀ L s.heap news) (hb : (b, W.listOf #[x, y] n2) ∈ news)
    (U : Upd D (W.listOf vs.toArray n) (W.listOf (vs ++ [x, y]).toArray (n + 1)) news news') (hlen : vs.length ≤ 1000)
    (h : ∀ h', Fr h₀ L h' m → News h₀ L h' news' → Q .none { s with heap := h' }) : wpAny (model prog w) A (call (.builtin "list.extend") [.ref D, .ref b]) Q E s := by
  refine kl_extend (l := vs ++ [x, y]) F N hb (by simp) (by simp) U ?_ ?_ ?_ h
  · have e : Builtin.List.listTooLong (vs.toArray.size + #[x, y].size) = false := by
      unfold Builtin.List.listTooLong
      simp [sizeLine_eq]
      omega
    rw [e]; simp
  · simp [sizeLine_eq]; omega
  · simp [sizeLine_eq]; omega
end
theorem words8 : True := by
  k_with "call builtin:list.extend" => ((k_here; (with_reducible show wpAny _ _ (call (Value.builtin _) [Value.ref _, Value.ref _]) _ _ _); k_dflt (refine' extend_two ?myHoleF ?myHoleN ?myHoleb ?myHoleU ?myHoled ?_; (case myHoleF => k_asm); (case myHoleN => k_asm); (case myHoleb => k_mem); (case myHoleU => k_upd); (case myHoled => ((have e9 := IntsAre.length (by assumption)); omega))); intro h' F' N'; (try dsimp only at N'); (try k_sweep)))
  trivial
theorem base2 : True := by
  k_with "kst_facts1" => (first | exact IntsAre.nil | exact IntsAre.append (by assumption) (.cons _ _ (.cons _ _ .nil)))
  trivial

/-- what a call gives back that makes a list of ints -/
abbrev ClaimL (prog : Program) (w : World) (d : Nat) (f : Addr) (news : List (Addr × Obj)) (vs : List Value) (ns : List Int) : Prop :=
  ∀ (loose : List Str) (mean : ExcName → Option Value) (mg mb : Str → Option Value)
    (dp un : Nat) (gd : Option (List Code)) (cn : Str) (cs : Scope) (a : Addr) (ccd : Value) (cl : List (Str × Addr)) (outer : List Env) (A₀ : Around) (base h₀ : Heap) (L : Addr) (m : Str → Option Value) (s : Shared) (Q E : Value → Shared → Prop),
    Below A₀ base outer h₀ → Fr h₀ L s.heap m → (hd.heap_39 w.params).In h₀ → News h₀ L s.heap news → Top hd.view_39 loose mean mg mb h₀ → cs.kind = .function →
    dp + d < recursionLimit → un + 8 * d < cLine →
    (∀ (D : Addr) (ws : List Value) (c : Nat) (h' : Heap) (tk' : Nat), Fr h₀ L h' m → News h₀ L h' ((D, W.listOf ws.toArray c) :: news) → (∀ p ∈ news, p.1 < D) → IntsAre ws ns → Q (.ref D) { s with heap := h', toks := tk' }) →
    wpAny (model prog w) (ktrTop dp un gd cn cs L a ccd cl outer) (call (.ref f) vs) Q E s

theorem ClaimL.use {prog : Program} {w : World} {d : Nat} {f : Addr} {news : List (Addr × Obj)} {vs : List Value} {ns : List Int}
    {loose : List Str} {mean : ExcName → Option Value} {mg mb : Str → Option Value}
    {dp un : Nat} {gd : Option (List Code)} {cn : Str} {cs : Scope} {a : Addr} {ccd : Value} {cl : List (Str × Addr)} {outer : List Env} {A₀ : Around} {base h₀ : Heap} {L : Addr} {m : Str → Option Value} {s : Shared} {Q E : Value → Shared → Prop}
    (C : ClaimL prog w d f news vs ns)
    (B : Below A₀ base outer h₀) (F : Fr h₀ L s.heap m) (X : (hd.heap_39 w.params).In h₀) (N : News h₀ L s.heap news) (T : Top hd.view_39 loose mean mg mb h₀) (hk : cs.kind = .function)
    (hd : dp + d < recursionLimit) (hu : un + 8 * d < cLine)
    (ret : ∀ (D : Addr) (ws : List Value) (c : Nat) (h' : Heap) (tk' : Nat), Fr h₀ L h' m → News h₀ L h' ((D, W.listOf ws.toArray c) :: news) → (∀ p ∈ news, p.1 < D) → IntsAre ws ns → Q (.ref D) { s with heap := h', toks := tk' }) :
    wpAny (model prog w) (ktrTop dp un gd cn cs L a ccd cl outer) (call (.ref f) vs) Q E s :=
  C loose mean mg mb dp un gd cn cs a ccd cl outer A₀ base h₀ L m s Q E B F X N T hk hd hu ret

set_option maxRecDepth 100000 in
set_option maxHeartbeats 8000000 in
theorem allodd_c (prog : Program) (w : World) (news : List (Addr × Obj)) (l ld : Addr) (es : List DictEntry) (ne : Nat) (k : Int) (t1 t3 : Tok) (hk3 : 3 ≤ k) (hk6 : k ≤ 6)
    (hl : (l, instObj 53 ld) ∈ news) (hld : (ld, dictOf es ne) ∈ news) (hw : getL "width" es = some (some (.int k t3))) :
    ClaimL prog w 14 246 news [.int k t1, .ref l] (odds k) := by
  w_top off
  k_with "state" => first | exact odd_w0 | exact odd_w1 (by omega) (by assumption) (by assumption)
  k_with "call type:range" => k_dflt (((with_reducible show wpAny _ _ (call _ [Value.int (1 * 2 ^ Int.toNat _) _]) _ _ _); generalize hq : (1 * 2 ^ (k - 2).toNat : Int) = q; (have hqb : 2 ≤ q ∧ q ≤ 16 := by omega)))
  k_with "pyIter ref" => k_dflt (k_state (fun pre found last => found.length = 2 * pre.length ∧ (-9223372036854775808 ≤ last ∧ last ≤ 9223372036854775807) ∧ (found, last) = oddSt k pre.length) "found" "last")
  k_with "call builtin:sorted" => k_dflt (
    refine' kso_sorted ?k1 ?k2 ?k3 ?k4 ?k5 ?_
    (case k1 => with_reducible assumption)
    (case k2 => with_reducible assumption)
    (case k3 => k_dflt (refine' kso_isList ?N ?hm rfl; (case N => with_reducible assumption); (case hm => k_mem)))
    (case k4 => assumption)
    (case k5 => exact found_short (by with_reducible assumption) hqb.2)
    intro D' v' n' c' h' F' N' l1 i' e' p' o' b'
    have hodds : n' = odds k := odds_sorted hk3 hk6 hq (rangeKs_length _ _) (by with_reducible assumption) p' o'
    subst hodds)
  have hp2 : 2 ≤ (2 : Int) ^ (k - 2).toNat ∧ (2 : Int) ^ (k - 2).toNat ≤ 16 := pow_small hk3 hk6
  intro loose mean mg mb dp un gd cn cs a ccd cl outer A₀ base h₀ L m s Q E B F X N T hk hd hu hret
  refine wpAny_call ?_
  k_dflt cell_enter
  k_steps
  exact hret D' v' c' _ _ (by with_reducible assumption) (by refine' cb_drop ?cbN ?cbS; (case cbN => with_reducible assumption); (case cbS => exact drop_mid)) (fun p hp => l1 p (List.mem_cons_of_mem _ (List.mem_cons_of_mem _ hp))) i'

theorem words9 : True := by
  k_with_none
  k_with "k_mem" => (first | exact mem_up (by assumption) | (refine mem_l ?_; k_mem) | (refine mem_r ?_; k_mem))
  k_with "kst_facts1" => (first | exact IntsAre.nil | exact IntsAre.append (by assumption) (.cons _ _ (.cons _ _ .nil)))
  k_with "call ref" => ((k_here; (with_reducible show wpAny _ _ (call (Value.ref 225) [Value.int 2 _, Value.int _ _, Value.int _ _, Value.ref _]) _ _ _); k_dflt (refine' Claim.useI2 (made_mul_u _ _ _ _ _ _ _ _ _ _ _ _ _ _ ?myHolek3 ?myHolek4 ?myHolehl ?myHolehm ?myHolehw ?myHolex1 ?myHolex2 ?myHoley1 ?myHoley2) ?myHolekB ?myHolekF ?myHolekX ?myHolekN ?myHolekT ?myHolekK ?myHolekd ?myHoleku ?_; (case myHolekB => k_asm); (case myHolekF => k_asm); (case myHolekX => k_asm); (case myHolekN => k_asm); (case myHolekT => k_asm); (case myHolekK => first | exact rfl | assumption); (case myHolehl => k_mem); (case myHolehm => k_mem); (case myHolehw => first | assumption | k_get); (case myHolek3 => first | with_reducible assumption | omega); (case myHolek4 => first | with_reducible assumption | omega); (case myHolex1 => first | with_reducible assumption | omega); (case myHolex2 => first | with_reducible assumption | omega); (case myHoley1 => first | with_reducible assumption | omega); (case myHoley2 => first | with_reducible assumption | omega); (case myHolekd => ktr_room); (case myHoleku => ktr_units); intro t9 h9 tk9 F9 N9 lo9 hi9; (try dsimp only); (try k_fold))))
  k_with "call ref" => ((k_here; (with_reducible show wpAny _ _ (call (Value.ref 225) [Value.int 1 _, Value.int _ _, Value.int _ _, Value.ref _]) _ _ _); k_dflt (refine' Claim.useI2 (made_sub_u _ _ _ _ _ _ _ _ _ _ _ _ _ _ ?myHolek3 ?myHolek4 ?myHolehl ?myHolehm ?myHolehw ?myHolex1 ?myHolex2 ?myHoley1 ?myHoley2) ?myHolekB ?myHolekF ?myHolekX ?myHolekN ?myHolekT ?myHolekK ?myHolekd ?myHoleku ?_; (case myHolekB => k_asm); (case myHolekF => k_asm); (case myHolekX => k_asm); (case myHolekN => k_asm); (case myHolekT => k_asm); (case myHolekK => first | exact rfl | assumption); (case myHolehl => k_mem); (case myHolehm => k_mem); (case myHolehw => first | assumption | k_get); (case myHolek3 => first | with_reducible assumption | omega); (case myHolek4 => first | with_reducible assumption | omega); (case myHolex1 => first | with_reducible assumption | omega); (case myHolex2 => first | with_reducible assumption | omega); (case myHoley1 => first | with_reducible assumption | omega); (case myHoley2 => first | with_reducible assumption | omega); (case myHolekd => ktr_room); (case myHoleku => ktr_units); intro t9 h9 tk9 F9 N9 lo9 hi9; (try dsimp only); (try k_fold))))
  k_with "call ref" => ((k_here; (with_reducible show wpAny _ _ (call (Value.ref 225) [Value.int 5 _, Value.int _ _, Value.int _ _, Value.ref _]) _ _ _); k_dflt (refine' Claim.useI2 (made_pow_u _ _ _ _ _ _ _ _ _ _ _ _ _ _ ?myHolek3 ?myHolek4 ?myHolehl ?myHolehm ?myHolehw ?myHolex1 ?myHolex2 ?myHoley1 ?myHoley2) ?myHolekB ?myHolekF ?myHolekX ?myHolekN ?myHolekT ?myHolekK ?myHolekd ?myHoleku ?_; (case myHolekB => k_asm); (case myHolekF => k_asm); (case myHolekX => k_asm); (case myHolekN => k_asm); (case myHolekT => k_asm); (case myHolekK => first | exact rfl | assumption); (case myHolehl => k_mem); (case myHolehm => k_mem); (case myHolehw => first | assumption | k_get); (case myHolek3 => first | with_reducible assumption | omega); (case myHolek4 => first | with_reducible assumption | omega); (case myHolex1 => first | with_reducible assumption | omega); (case myHolex2 => first | with_reducible assumption | omega); (case myHoley1 => first | with_reducible assumption | omega); (case myHoley2 => first | with_reducible assumption | omega); (case myHolekd => ktr_room); (case myHoleku => ktr_units); intro t9 h9 tk9 F9 N9 lo9 hi9; (try dsimp only); (try k_fold))))
  k_with "call ref" => ((k_here; (with_reducible show wpAny _ _ (call (Value.ref 225) [Value.int 6 _, Value.int _ _, Value.int _ _, Value.ref _]) _ _ _); k_dflt (refine' Claim.useI2 (made_unm_u _ _ _ _ _ _ _ _ _ _ _ _ _ _ ?myHolek3 ?myHolek4 ?myHolehl ?myHolehm ?myHolehw ?myHolex1 ?myHolex2 ?myHoley1 ?myHoley2) ?myHolekB ?myHolekF ?myHolekX ?myHolekN ?myHolekT ?myHolekK ?myHolekd ?myHoleku ?_; (case myHolekB => k_asm); (case myHolekF => k_asm); (case myHolekX => k_asm); (case myHolekN => k_asm); (case myHolekT => k_asm); (case myHolekK => first | exact rfl | assumption); (case myHolehl => k_mem); (case myHolehm => k_mem); (case myHolehw => first | assumption | k_get); (case myHolek3 => first | with_reducible assumption | omega); (case myHolek4 => first | with_reducible assumption | omega); (case myHolex1 => first | with_reducible assumption | omega); (case myHolex2 => first | with_reducible assumption | omega); (case myHoley1 => first | with_reducible assumption | omega); (case myHoley2 => first | with_reducible assumption | omega); (case myHolekd => ktr_room); (case myHoleku => ktr_units); intro t9 h9 tk9 F9 N9 lo9 hi9; (try dsimp only); (try k_fold))))
  k_with "call builtin:list.extend" => ((k_here; (with_reducible show wpAny _ _ (call (Value.builtin _) [Value.ref _, Value.ref _]) _ _ _); k_dflt (refine' extend_two ?myHoleF ?myHoleN ?myHoleb ?myHoleU ?myHoled ?_; (case myHoleF => k_asm); (case myHoleN => k_asm); (case myHoleb => k_mem); (case myHoleU => k_upd); (case myHoled => ((have e9 := IntsAre.length (by assumption)); omega))); intro h' F' N'; (try dsimp only at N'); (try k_sweep)))
  trivial
theorem base3 : True := by
  k_with "k_all" => (assumption)
  trivial

section
variable {prog : Program} {w : World} {A : Around} {E : Value → Shared → Prop} {s : Shared} {h₀ : Heap} {L d : Addr} {m : Str → Option Value} {news : List (Addr × Obj)} {g : Obj → List (Addr × Obj)} {o : Obj} {x y v : Value} {t : Tok}
theorem set_at {Q : Unit → Shared → Prop} (F : Fr h₀ L s.heap m) (N : News h₀ L s.heap news) (U : UpdF d o news g) (hd : o.IsDictOf (PySem.strKind prog w) [("all", x), ("at", y)])
    (h : ∀ h' o', Fr h₀ L h' m → News h₀ L h' (g o') → o'.IsDictOf (PySem.strKind prog w) [("all", x), ("at", v)] → Q () { s with heap := h', toks := s.toks + 1 }) : wpAny (model prog w) A (setItem (.ref d) (.str "at" t) v) Q E s :=
  kda_set F N U hd (strKind_is prog w "at" t) (by rw [sizeLine_eq]; exact Nat.le_of_ble_eq_true rfl) fun h' o' F' N' hd' => h h' o' F' N' hd'
theorem get_at {value slice : PySem.Expr} {Q : Value → Shared → Prop} (N : News h₀ L s.heap news) (hp : (d, o) ∈ news) (hd : o.IsDictOf (PySem.strKind prog w) [("all", x), ("at", y)]) (h : Q y { s with toks := s.toks + 1 })
    (hs : subscripted slice false (.ref d) (.str "at" t) = operate [.ref d, .str "at" t] (getItem (.ref d) (.str "at" t))) (hg : ∀ r, letTemporaryGo value (.ref d) r = pure ()) :
    wpAny (model prog w) A (subscriptTail value slice (.ref d) (.str "at" t)) Q E s := kda_item N hp hd (strKind_is prog w "at" t) rfl h hs hg
theorem get_all {value slice : PySem.Expr} {Q : Value → Shared → Prop} (N : News h₀ L s.heap news) (hp : (d, o) ∈ news) (hd : o.IsDictOf (PySem.strKind prog w) [("all", x), ("at", y)]) (h : Q x { s with toks := s.toks + 1 })
    (hs : subscripted slice false (.ref d) (.str "all" t) = operate [.ref d, .str "all" t] (getItem (.ref d) (.str "all" t))) (hg : ∀ r, letTemporaryGo value (.ref d) r = pure ()) :
    wpAny (model prog w) A (subscriptTail value slice (.ref d) (.str "all" t)) Q E s := kda_item N hp hd (strKind_is prog w "all" t) rfl h hs hg
end

theorem words10 : True := by
  k_with "setItem ref str" => ((k_here; (with_reducible show wpAny _ _ (setItem (Value.ref _) (Value.str (PySem.Str.ofString "at") _) _) _ _ _); k_dflt (refine' set_at ?myHoleF ?myHoleN ?myHoleU ?myHoled ?_; (case myHoleF => k_asm); (case myHoleN => k_asm); (case myHoled => with_reducible assumption); (case myHoleU => k_updF)); intro h' o' F' N' hd'; (try dsimp only at N'); (try k_sweep)))
  k_with "subscriptTail" => ((k_here; (with_reducible show wpAny _ _ (subscriptTail _ _ (Value.ref _) (Value.str (PySem.Str.ofString "at") _)) _ _ _); k_dflt (refine' get_at ?myHoleN ?myHolem ?myHoled ?_ (by with_unfolding_all rfl) (by intro _; with_unfolding_all rfl); (case myHoleN => k_asm); (case myHoled => with_reducible assumption); (case myHolem => k_mem); k_whole)))
  k_with "subscriptTail" => ((k_here; (with_reducible show wpAny _ _ (subscriptTail _ _ (Value.ref _) (Value.str (PySem.Str.ofString "all") _)) _ _ _); k_dflt (refine' get_all ?myHoleN ?myHolem ?myHoled ?_ (by with_unfolding_all rfl) (by intro _; with_unfolding_all rfl); (case myHoleN => k_asm); (case myHoled => with_reducible assumption); (case myHolem => k_mem); k_whole)))
  trivial
theorem told_in (x : Int) {many : Int} (hm : 1 ≤ many) : 0 ≤ x.fmod many ∧ x.fmod many < many := by
  rw [Int.fmod_eq_emod_of_nonneg _ (by omega)]
  exact ⟨Int.emod_nonneg _ (by omega), Int.emod_lt_of_pos _ (by omega)⟩

set_option maxRecDepth 100000 in
set_option maxHeartbeats 8000000 in
theorem told_c (prog : Program) (w : World) (rest : List (Addr × Obj)) (D B : Addr) (ws : List Value) (ns : List Int) (o : Obj) (i many : Int) (t0 t1 : Tok)
    (hdict : o.IsDictOf (PySem.strKind prog w) [("all", .ref D), ("at", .int i t0)]) (hrest : ∀ p ∈ rest, p.1 ≠ B) (hBD : @LT.lt Nat _ B D) (hI : IntsAre ws ns) (hlen : ns.length ≤ 8) (hi0 : 0 ≤ i) (hi1 : i ≤ 100) (hm1 : 1 ≤ many) (hm2 : many ≤ 1000000000)
    (loose : List Str) (mean : ExcName → Option Value) (mg mb : Str → Option Value)
    (dp un : Nat) (gd : Option (List Code)) (cn : Str) (cs : Scope) (a : Addr) (ccd : Value) (cl : List (Str × Addr)) (outer : List Env) (A₀ : Around) (base h₀ : Heap) (L : Addr) (m : Str → Option Value) (s : Shared) (Q E : Value → Shared → Prop)
    (Bl : Below A₀ base outer h₀) (F : Fr h₀ L s.heap m) (X : (hd.heap_39 w.params).In h₀) (N : News h₀ L s.heap ((D, W.listOf ws.toArray 0) :: (B, o) :: rest)) (T : Top hd.view_39 loose mean mg mb h₀) (hk : cs.kind = .function)
    (hd : dp + 3 < recursionLimit) (hu : un + 8 * 3 < cLine)
    (hret : ∀ (v : Int) (t t' : Tok) (o' : Obj) (h' : Heap) (tk' : Nat), Fr h₀ L h' m → News h₀ L h' ((D, W.listOf ws.toArray 0) :: (B, o') :: rest) → o'.IsDictOf (PySem.strKind prog w) [("all", .ref D), ("at", .int (i + 1) t)] → 0 ≤ v → v < many → Q (.int v t') { s with heap := h', toks := tk' }) :
    wpAny (model prog w) (ktrTop dp un gd cn cs L a ccd cl outer) (call (.ref 211) [.ref B, .int many t1]) Q E s := by
  w_top off
  refine wpAny_call ?_
  k_dflt cell_enter
  k_steps
  all_goals exact hret _ _ _ _ _ _ (by with_reducible assumption) (by with_reducible assumption) (by with_reducible assumption) (told_in _ hm1).1 (told_in _ hm1).2

theorem told_u {prog : Program} {w : World} {news : List (Addr × Obj)} {g : Obj → List (Addr × Obj)} {D B : Addr} {ws : List Value} {ns : List Int} {o : Obj} {i many : Int} {t0 t1 : Tok}
    {loose : List Str} {mean : ExcName → Option Value} {mg mb : Str → Option Value}
    {dp un : Nat} {gd : Option (List Code)} {cn : Str} {cs : Scope} {a : Addr} {ccd : Value} {cl : List (Str × Addr)} {outer : List Env} {A₀ : Around} {base h₀ : Heap} {L : Addr} {m : Str → Option Value} {s : Shared} {Q E : Value → Shared → Prop}
    (Bl : Below A₀ base outer h₀) (F : Fr h₀ L s.heap m) (X : (hd.heap_39 w.params).In h₀) (N : News h₀ L s.heap news) (T : Top hd.view_39 loose mean mg mb h₀) (hk : cs.kind = .function)
    (hdict : o.IsDictOf (PySem.strKind prog w) [("all", .ref D), ("at", .int i t0)]) (U : UpdF B o news g) (hD : (D, W.listOf ws.toArray 0) ∈ news) (hBD : @LT.lt Nat _ B D) (hI : IntsAre ws ns) (hlen : ns.length ≤ 8) (hi0 : 0 ≤ i) (hi1 : i ≤ 100) (hm1 : 1 ≤ many) (hm2 : many ≤ 1000000000)
    (hd : dp + 3 < recursionLimit) (hu : un + 8 * 3 < cLine)
    (hret : ∀ (v : Int) (t t' : Tok) (o' : Obj) (h' : Heap) (tk' : Nat), Fr h₀ L h' m → News h₀ L h' (g o') → o'.IsDictOf (PySem.strKind prog w) [("all", .ref D), ("at", .int (i + 1) t)] → 0 ≤ v → v < many → Q (.int v t') { s with heap := h', toks := tk' }) :
    wpAny (model prog w) (ktrTop dp un gd cn cs L a ccd cl outer) (call (.ref 211) [.ref B, .int many t1]) Q E s := by
  obtain ⟨pre, post, rfl, hg, h1, h2⟩ := U.split
  refine told_c prog w (pre ++ post) D B ws ns o i many t0 t1 hdict ?_ hBD hI hlen hi0 hi1 hm1 hm2 loose mean mg mb dp un gd cn cs a ccd cl outer A₀ base h₀ L m s Q E Bl F X ?_ T hk hd hu ?_
  · intro p hp
    rcases List.mem_append.mp hp with hp | hp
    · exact h1 p hp
    · exact h2 p hp
  · intro p hp
    rcases List.mem_cons.mp hp with rfl | hp
    · exact N _ hD
    rcases List.mem_cons.mp hp with rfl | hp
    · exact N _ (List.mem_append_right _ (.head _))
    rcases List.mem_append.mp hp with hp | hp
    · exact N _ (List.mem_append_left _ hp)
    · exact N _ (List.mem_append_right _ (.tail _ hp))
  · intro v t t' o' h' tk' F' N' hd' h0 h9
    refine hret v t t' o' h' tk' F' ?_ hd' h0 h9
    rw [hg]
    intro p hp
    rcases List.mem_append.mp hp with hp | hp
    · exact N' _ (.tail _ (.tail _ (List.mem_append_left _ hp)))
    rcases List.mem_cons.mp hp with rfl | hp
    · exact N' _ (.tail _ (.head _))
    · exact N' _ (.tail _ (.tail _ (List.mem_append_right _ hp)))

theorem left_out {n k : Int} {t : Tok} (hk : 3 ≤ k) : ∃ t', Value.int ((n + 1 * 2 ^ (k - 1).toNat).fmod (2 * (1 * 2 ^ (k - 1).toNat)) - 1 * 2 ^ (k - 1).toNat) t = Value.int (wrapI n k) t' := ⟨t, by rw [← left_wrap hk]; rfl⟩

set_option maxRecDepth 100000 in
set_option maxHeartbeats 8000000 in
theorem left_c (prog : Program) (w : World) (news : List (Addr × Obj)) (n k : Int) (t1 t2 : Tok) (hk3 : 3 ≤ k) (hk64 : k ≤ 64) :
    Claim prog w 3 218 news [.int n t1, .int k t2] (fun r => ∃ t, r = .int (wrapI n k) t) := by
  w_top off
  intro loose mean mg mb dp un gd cn cs a ccd cl outer A₀ base h₀ L m s Q E B F X N T hk hd hu hret
  refine wpAny_call ?_
  k_dflt cell_enter
  k_steps
  exact hret _ _ _ (by with_reducible assumption) (by with_reducible assumption) (left_out hk3)

/-- the frame of a new Limits' making -/
noncomputable def limsL (x : Addr) (k : Int) (t : Tok) : List (Str × Value) := [("text", .int 1000000 219), ("steps", .int 1000000000 218), ("flush", .int 50 217), ("stack", .int 2000 216), ("frames", .int 200 215), ("ccalls", .int 40 214), ("local_names", .int 200 213), ("upvalues", .int 60 212), ("registers", .int 250 211), ("width", .int k t), ("self", .ref x)]
theorem lim_map {g h : Heap} {L x : Addr} {k : Int} {t : Tok} {l : List (Str × Value)} (F : Fr g L h (fun y => List.lookup y l)) (e : l = limsL x k t) : ∃ lm : Str → Option Value, Fr g L h lm ∧ lm "self" = some (.ref x) ∧ lm "width" = some (.int k t) ∧ lm "registers" = some (.int 250 211) ∧ lm "upvalues" = some (.int 60 212) ∧ lm "local_names" = some (.int 200 213) ∧ lm "ccalls" = some (.int 40 214) ∧ lm "frames" = some (.int 200 215) ∧ lm "stack" = some (.int 2000 216) ∧ lm "flush" = some (.int 50 217) ∧ lm "steps" = some (.int 1000000000 218) ∧ lm "text" = some (.int 1000000 219) := by
  subst e
  exact ⟨_, F, by kernel_rfl!, by kernel_rfl!, by kernel_rfl!, by kernel_rfl!, by kernel_rfl!, by kernel_rfl!, by kernel_rfl!, by kernel_rfl!, by kernel_rfl!, by kernel_rfl!, by kernel_rfl!⟩


theorem words11 : True := by
  k_with_none
  k_with "k_mem" => (first | exact mem_up (by assumption) | (refine mem_l ?_; k_mem) | (refine mem_r ?_; k_mem))
  k_with "kst_facts1" => (first | exact IntsAre.nil | exact IntsAre.append (by assumption) (.cons _ _ (.cons _ _ .nil)))
  k_with "k_all" => (assumption)
  k_with "eval Name" => ((k_here; k_dflt (refine' ld ?myHolek1 ?myHolek2 ?_; (case myHolek1 => with_reducible assumption); (case myHolek2 => with_reducible assumption); k_whole)))
  trivial
set_option maxRecDepth 100000 in
set_option maxHeartbeats 8000000 in
theorem limits_c (prog : Program) (w : World) (news : List (Addr × Obj)) (k : Int) (t : Tok)
    (loose : List Str) (mean : ExcName → Option Value) (mg mb : Str → Option Value)
    (dp un : Nat) (gd : Option (List Code)) (cn : Str) (cs : Scope) (a : Addr) (ccd : Value) (cl : List (Str × Addr)) (outer : List Env) (A₀ : Around) (base h₀ : Heap) (L : Addr) (m : Str → Option Value) (s : Shared) (Q E : Value → Shared → Prop)
    (Bl : Below A₀ base outer h₀) (F : Fr h₀ L s.heap m) (X : (hd.heap_39 w.params).In h₀) (N : News h₀ L s.heap news) (T : Top hd.view_39 loose mean mg mb h₀) (hk : cs.kind = .function)
    (hd : dp + 3 < recursionLimit) (hu : un + 8 * 3 < cLine)
    (hret : ∀ (x dx : Addr) (es : List DictEntry) (t' : Tok) (h' : Heap) (tk' : Nat), Fr h₀ L h' m → News h₀ L h' ((x, instObj 53 dx) :: (dx, dictOf es 10) :: news) → (∀ p ∈ news, p.1 < dx) → @LT.lt Nat _ dx x → getL "width" es = some (some (.int k t')) → Q (.ref x) { s with heap := h', toks := tk' }) :
    wpAny (model prog w) (ktrTop dp un gd cn cs L a ccd cl outer) (call (.ref 53) [] [(Str.ofString "width", .int k t)]) Q E s := by
  w_top off
  k_dflt (refine' call_cls ?k1 ?k2 ?k3 ?k4 ?k5 ?k6 ?_; (case k1 => k_asm); (case k2 => k_asm); (case k3 => k_asm); (case k4 => k_is); (case k5 => k_is); (case k6 => k_is); k_whole; intro x' d' h' F' N' l1 l2)
  k_dflt (refine' code_def ?k1 ?k2 ?k3 ?k4 ?k5 ?kA ?kF ?kK ?k6 ?k7 ?k8 ?k9 ?kB ?_ ?c2 ?c3 ?c4 ?c5; (case kA => exact rfl); (case kF => exact rfl); (case kK => first | exact rfl | assumption); (case k1 => k_asm); (case k2 => k_asm); (case k3 => k_asm); (case k4 => k_asm); (case k5 => k_asm); (case k6 => k_is); (case k7 => k_is); (case k8 => ktr_room); (case k9 => first | exact BindsTo.of_eq rfl | exact binds_K (by k_in) rfl (by k_is) rfl rfl rfl | fail "k_enter: no rule for these arguments"); (case c5 => decide); (case kB => exact locs rfl); (case c2 => exact rfl); (case c3 => exact rfl); (case c4 => exact rfl); k_whole; intro g' L' h' FG' F' N' B' X' T'; (try dsimp only))
  obtain ⟨lm, F2, e1, e2, e3, e4, e5, e6, e7, e8, e9, e10, e11⟩ := lim_map (x := x') (k := k) (t := t) F' (by kernel_rfl!)
  clear F'
  have hne : ∀ p ∈ news, p.1 ≠ d' := fun p hp => Nat.ne_of_lt (l1 p hp)
  have l2' := ltN l2
  k_steps
  exact hret x' d' _ _ _ _ (by with_reducible assumption) (by with_reducible assumption) l1 l2' (by k_dflt k_get)

theorem words12 : True := by
  k_with_none
  k_with "k_mem" => (first | exact mem_up (by assumption) | (refine mem_l ?_; k_mem) | (refine mem_r ?_; k_mem))
  k_with "kst_facts1" => (first | exact IntsAre.nil | exact IntsAre.append (by assumption) (.cons _ _ (.cons _ _ .nil)))
  k_with "k_all" => (assumption)
  k_with "call ref" => ((k_here; (with_reducible show wpAny _ _ (call (Value.ref 225) [Value.int 2 _, Value.int _ _, Value.int _ _, Value.ref _]) _ _ _); k_dflt (refine' Claim.useI2 (made_mul_u _ _ _ _ _ _ _ _ _ _ _ _ _ _ ?myHolek3 ?myHolek4 ?myHolehl ?myHolehm ?myHolehw ?myHolex1 ?myHolex2 ?myHoley1 ?myHoley2) ?myHolekB ?myHolekF ?myHolekX ?myHolekN ?myHolekT ?myHolekK ?myHolekd ?myHoleku ?_; (case myHolekB => k_asm); (case myHolekF => k_asm); (case myHolekX => k_asm); (case myHolekN => k_asm); (case myHolekT => k_asm); (case myHolekK => first | exact rfl | assumption); (case myHolehl => k_mem); (case myHolehm => k_mem); (case myHolehw => first | assumption | k_get); (case myHolek3 => first | with_reducible assumption | exact add_3 (by with_reducible assumption) | omega); (case myHolek4 => first | with_reducible assumption | exact add_64 (by with_reducible assumption) | omega); (case myHolex1 => first | with_reducible assumption | omega); (case myHolex2 => first | with_reducible assumption | omega); (case myHoley1 => first | with_reducible assumption | exact pow_y0 _ | omega); (case myHoley2 => first | with_reducible assumption | exact pow_y1 (add_64 (by with_reducible assumption)) | omega); (case myHolekd => first | k_room | ktr_room); (case myHoleku => first | exact Nat.le_of_ble_eq_true rfl | ktr_units); intro t9 h9 tk9 F9 N9 lo9 hi9; (try dsimp only); (try k_fold))))
  k_with "call ref" => ((k_here; (with_reducible show wpAny _ _ (call (Value.ref 225) [Value.int 1 _, Value.int _ _, Value.int _ _, Value.ref _]) _ _ _); k_dflt (refine' Claim.useI2 (made_sub_u _ _ _ _ _ _ _ _ _ _ _ _ _ _ ?myHolek3 ?myHolek4 ?myHolehl ?myHolehm ?myHolehw ?myHolex1 ?myHolex2 ?myHoley1 ?myHoley2) ?myHolekB ?myHolekF ?myHolekX ?myHolekN ?myHolekT ?myHolekK ?myHolekd ?myHoleku ?_; (case myHolekB => k_asm); (case myHolekF => k_asm); (case myHolekX => k_asm); (case myHolekN => k_asm); (case myHolekT => k_asm); (case myHolekK => first | exact rfl | assumption); (case myHolehl => k_mem); (case myHolehm => k_mem); (case myHolehw => first | assumption | k_get); (case myHolek3 => first | with_reducible assumption | exact add_3 (by with_reducible assumption) | omega); (case myHolek4 => first | with_reducible assumption | exact add_64 (by with_reducible assumption) | omega); (case myHolex1 => first | with_reducible assumption | omega); (case myHolex2 => first | with_reducible assumption | omega); (case myHoley1 => first | with_reducible assumption | exact pow_y0 _ | omega); (case myHoley2 => first | with_reducible assumption | exact pow_y1 (add_64 (by with_reducible assumption)) | omega); (case myHolekd => first | k_room | ktr_room); (case myHoleku => first | exact Nat.le_of_ble_eq_true rfl | ktr_units); intro t9 h9 tk9 F9 N9 lo9 hi9; (try dsimp only); (try k_fold))))
  k_with "call ref" => ((k_here; (with_reducible show wpAny _ _ (call (Value.ref 225) [Value.int 5 _, Value.int _ _, Value.int _ _, Value.ref _]) _ _ _); k_dflt (refine' Claim.useI2 (made_pow_u _ _ _ _ _ _ _ _ _ _ _ _ _ _ ?myHolek3 ?myHolek4 ?myHolehl ?myHolehm ?myHolehw ?myHolex1 ?myHolex2 ?myHoley1 ?myHoley2) ?myHolekB ?myHolekF ?myHolekX ?myHolekN ?myHolekT ?myHolekK ?myHolekd ?myHoleku ?_; (case myHolekB => k_asm); (case myHolekF => k_asm); (case myHolekX => k_asm); (case myHolekN => k_asm); (case myHolekT => k_asm); (case myHolekK => first | exact rfl | assumption); (case myHolehl => k_mem); (case myHolehm => k_mem); (case myHolehw => first | assumption | k_get); (case myHolek3 => first | with_reducible assumption | exact add_3 (by with_reducible assumption) | omega); (case myHolek4 => first | with_reducible assumption | exact add_64 (by with_reducible assumption) | omega); (case myHolex1 => first | with_reducible assumption | omega); (case myHolex2 => first | with_reducible assumption | omega); (case myHoley1 => first | with_reducible assumption | exact pow_y0 _ | omega); (case myHoley2 => first | with_reducible assumption | exact pow_y1 (add_64 (by with_reducible assumption)) | omega); (case myHolekd => first | k_room | ktr_room); (case myHoleku => first | exact Nat.le_of_ble_eq_true rfl | ktr_units); intro t9 h9 tk9 F9 N9 lo9 hi9; (try dsimp only); (try k_fold))))
  k_with "call ref" => ((k_here; (with_reducible show wpAny _ _ (call (Value.ref 225) [Value.int 6 _, Value.int _ _, Value.int _ _, Value.ref _]) _ _ _); k_dflt (refine' Claim.useI2 (made_unm_u _ _ _ _ _ _ _ _ _ _ _ _ _ _ ?myHolek3 ?myHolek4 ?myHolehl ?myHolehm ?myHolehw ?myHolex1 ?myHolex2 ?myHoley1 ?myHoley2) ?myHolekB ?myHolekF ?myHolekX ?myHolekN ?myHolekT ?myHolekK ?myHolekd ?myHoleku ?_; (case myHolekB => k_asm); (case myHolekF => k_asm); (case myHolekX => k_asm); (case myHolekN => k_asm); (case myHolekT => k_asm); (case myHolekK => first | exact rfl | assumption); (case myHolehl => k_mem); (case myHolehm => k_mem); (case myHolehw => first | assumption | k_get); (case myHolek3 => first | with_reducible assumption | exact add_3 (by with_reducible assumption) | omega); (case myHolek4 => first | with_reducible assumption | exact add_64 (by with_reducible assumption) | omega); (case myHolex1 => first | with_reducible assumption | omega); (case myHolex2 => first | with_reducible assumption | omega); (case myHoley1 => first | with_reducible assumption | exact pow_y0 _ | omega); (case myHoley2 => first | with_reducible assumption | exact pow_y1 (add_64 (by with_reducible assumption)) | omega); (case myHolekd => first | k_room | ktr_room); (case myHoleku => first | exact Nat.le_of_ble_eq_true rfl | ktr_units); intro t9 h9 tk9 F9 N9 lo9 hi9; (try dsimp only); (try k_fold))))
  trivial
theorem pow_y0 (k : Int) : (0 : Int) ≤ 1 * 2 ^ (k - 2).toNat - 1 := by
  have := pw_pos (k - 2).toNat
  omega
theorem pow_y1 {k : Int} (h : k ≤ 64) : (1 * 2 ^ (k - 2).toNat - 1 : Int) ≤ 9223372036854775807 := by
  have h1 : (2 : Int) ^ (k - 2).toNat ≤ 2 ^ 62 := pw_le (by omega)
  have h2 : (2 : Int) ^ 62 = 4611686018427387904 := by decide
  omega
theorem add_3 {v : Int} (h : 0 ≤ v) : 3 ≤ 3 + v := by omega
theorem add_64 {v : Int} (h : v < 62) : 3 + v ≤ 64 := by omega
theorem odd_two (x : Int) : (2 * x + 1) % 2 = 1 := by omega
theorem half_bounds {sm : Int} (h3 : 3 ≤ sm) (h6 : sm ≤ 6) : 4 ≤ (1 * 2 ^ (sm - 1).toNat : Int) ∧ (1 * 2 ^ (sm - 1).toNat : Int) ≤ 32 := by
  rcases (show sm = 3 ∨ sm = 4 ∨ sm = 5 ∨ sm = 6 by omega) with rfl | rfl | rfl | rfl <;> decide
theorem store_small {M : Model} {A : Around} {en : Env} {y : Str} {a b : Int} {t : Tok} {Q : Unit → Shared → Prop} {E : Value → Shared → Prop} {s : Shared} (ha3 : 3 ≤ a) (ha6 : a ≤ 6) (hb3 : 3 ≤ b)
    (h : ∀ sm t', 3 ≤ sm → sm ≤ 6 → wpAny M A (storeName en y (.int sm t')) Q E s) : wpAny M A (storeName en y (.int (if a < b then a else b) t)) Q E s :=
  h _ _ (by split <;> omega) (by split <;> omega)
theorem store_half {M : Model} {A : Around} {en : Env} {y : Str} {sm : Int} {t : Tok} {Q : Unit → Shared → Prop} {E : Value → Shared → Prop} {s : Shared} (h3 : 3 ≤ sm) (h6 : sm ≤ 6)
    (h : ∀ x, x = (1 * 2 ^ (sm - 1).toNat : Int) → 4 ≤ x → x ≤ 32 → wpAny M A (storeName en y (.int x t)) Q E s) : wpAny M A (storeName en y (.int (1 * 2 ^ (sm - 1).toNat) t)) Q E s :=
  h _ rfl (half_bounds h3 h6).1 (half_bounds h3 h6).2
theorem words13 : True := by
  k_with "storeName int" => ((k_here; with_reducible (refine store_small ?myHoleh1 ?myHoleh2 ?myHoleh3 (fun sm9 t9 a9 b9 => ?_); (case myHoleh1 => first | with_reducible assumption | omega); (case myHoleh2 => first | with_reducible assumption | omega); (case myHoleh3 => first | with_reducible assumption | omega))))
  k_with "storeName int" => ((k_here; with_reducible (refine store_half (by assumption) (by assumption) (fun x9 e9 a9 b9 => ?_))))
  trivial
theorem odds_eq {sm x : Int} (h3 : 3 ≤ sm) (h6 : sm ≤ 6) (e : x = (1 * 2 ^ (sm - 1).toNat : Int)) :
    odds sm = ((rangeInts 0 1 (x - 0).toNat).filter (fun _ => true)).map (fun a => 2 * a + 1 - x) := by
  subst e
  rcases (show sm = 3 ∨ sm = 4 ∨ sm = 5 ∨ sm = 6 by omega) with rfl | rfl | rfl | rfl <;> decide +kernel
theorem eq_odds {prog : Program} {w : World} {A : Around} {E : Value → Shared → Prop} {s : Shared} {h₀ : Heap} {L : Addr} {news : List (Addr × Obj)} {a b : Addr} {c : Nat} {vs us : List Value} {sm x : Int} {Q : Value → Shared → Prop}
    (N : News h₀ L s.heap news) (hm : (a, W.listOf vs.toArray c) ∈ news) (hi : IntsAre vs (odds sm)) (hl' : s.heap.IsList b us.toArray)
    (hc : CarriedAll us (((rangeInts 0 1 (x - 0).toNat).filter (fun _ => true)).map (fun a => PyData.int (2 * a + 1 - x)))) (h3 : 3 ≤ sm) (h6 : sm ≤ 6) (e : x = (1 * 2 ^ (sm - 1).toNat : Int)) (hu : A.units + 64 < cLine)
    (h : Q (.bool true) s) : wpAny (model prog w) A (compareOp .Eq (.ref a) (.ref b)) Q E s :=
  eq_intsK (kso_isList N hm rfl) hi hl' (CarriedAll.intsOf hc) hu (by rw [← odds_eq h3 h6 e, decide_eq_true rfl]; exact h)
theorem words14 : True := by
  k_with "compareOp Eq ref ref" => ((k_here; k_dflt (refine' eq_odds ?myHoleN ?myHolem ?myHolei ?myHolel ?myHolec ?myHolea ?myHoleb ?myHolee ?myHoleu ?_; (case myHoleN => k_asm); (case myHolei => with_reducible assumption); (case myHolem => k_mem); (case myHolel => with_reducible assumption); (case myHolec => assumption); (case myHolea => with_reducible assumption); (case myHoleb => with_reducible assumption); (case myHolee => with_reducible assumption); (case myHoleu => first | units_room | exact Nat.le_of_ble_eq_true rfl))))
  trivial
theorem base4 : True := by
  k_with "k_ne" => (((try dsimp only); first | with_reducible assumption | exact Ne.symm (by with_reducible assumption) | exact Nat.ne_of_lt (by with_reducible assumption) | exact Nat.ne_of_gt (by with_reducible assumption)))
  trivial
theorem words15 : True := by
  k_with "execs cons" => ((k_here; ((first | (with_reducible rename @Ne Addr _ _ ∧ _ => hc9) | (with_reducible rename (@Ne Addr _ _ ∧ _) ∧ _ => hc9) | (with_reducible rename @LT.lt Nat _ _ _ ∧ _ => hc9)); (have hx9 := And.left hc9); (have hy9 := And.right hc9); (clear hc9)); repeat ((first | (with_reducible rename @Ne Addr _ _ ∧ _ => hc9) | (with_reducible rename (@Ne Addr _ _ ∧ _) ∧ _ => hc9) | (with_reducible rename @LT.lt Nat _ _ _ ∧ _ => hc9)); (have hx9 := And.left hc9); (have hy9 := And.right hc9); (clear hc9))))
  trivial
theorem good_true {cl : Str → Option Addr} {mean : ExcName → Option Value} {ns : List Int} {s₁ s' : Shared} {L : Addr} {m : Str → Option Value} (F : Fr s₁.heap L s'.heap m) (hg : s'.gens = #[]) (hos : s'.os = s₁.os) :
    GoodW PySem.Challenge.rw_tk0054_01.row.claim cl mean [ofPy (PyData.list (List.map PyData.int ns))] s₁ (.ok (.ret (.bool true))) s' :=
  goodW_bool F hg (raisesW_false (by wrow_none_raised)) (by first | rfl | wrow_post) hos
theorem base5 : True := by
  k_with "kc_close" => (exact good_true (by with_reducible assumption) (by with_reducible assumption) rfl)
  trivial
theorem left_u (prog : Program) (w : World) (news : List (Addr × Obj)) (n k : Int) (t1 t2 : Tok) (hk3 : 3 ≤ k) (hk64 : k ≤ 64) (ho : n % 2 = 1) :
    Claim prog w 3 218 news [.int n t1, .int k t2] (fun r => ∃ x t, r = .int x t ∧ InW k x ∧ x % 2 = 1 ∧ -9223372036854775808 ≤ x ∧ x ≤ 9223372036854775807) := by
  intro loose mean mg mb dp un gd cn cs a ccd cl outer A₀ base h₀ L m s Q E B F X N T hk hd hu hret
  refine Claim.use (left_c prog w news n k t1 t2 hk3 hk64) B F X N T hk hd hu ?_
  rintro r h' tk' F' N' ⟨t, rfl⟩
  exact hret _ h' tk' F' N' ⟨_, t, rfl, wrap_in _ _, wrap_odd hk3 ho, wrap_bound _ hk64⟩
theorem inverse_u (prog : Program) (w : World) (news : List (Addr × Obj)) (l ld : Addr) (es : List DictEntry) (ne : Nat) (x k : Int) (t0 t1 t3 : Tok) (hk3 : 3 ≤ k) (hk64 : k ≤ 64)
    (hl : (l, instObj 53 ld) ∈ news) (hld : (ld, dictOf es ne) ∈ news) (hw : getL "width" es = some (some (.int k t3)))
    (hx : InW k x) (hodd : x % 2 = 1) :
    Claim prog w 14 232 news [.int x t0, .int k t1, .ref l] (fun r => ∃ t, r = .int (invI x k) t ∧ -9223372036854775808 ≤ invI x k ∧ invI x k ≤ 9223372036854775807 ∧ invI (invI x k) k = x) := by
  intro loose mean mg mb dp un gd cn cs a ccd cl outer A₀ base h₀ L m s Q E B F X N T hk hd hu hret
  refine Claim.use (inverse_c prog w news l ld es ne x k t0 t1 t3 hk3 hk64 hl hld hw hx hodd) B F X N T hk hd hu ?_
  rintro r h' tk' F' N' ⟨t, rfl⟩
  exact hret _ h' tk' F' N' ⟨t, rfl, (in_bound (inv_in x k) hk64).1, (in_bound (inv_in x k) hk64).2, inv_inv hk3 hodd hx⟩

theorem ite_eqv {x y : Int} {P Q : Prop} (e : x = y) (h : Q) : if (x != y) = true then P else Q := by rw [if_neg (by simp [e])]; exact h
theorem words16 : True := by
  k_with "ite" => (first | (with_reducible refine ite_same ?_) | (with_reducible refine ite_eqv (by with_reducible assumption) ?_))
  trivial
theorem inverse_m (prog : Program) (w : World) (news : List (Addr × Obj)) (l ld : Addr) (es : List DictEntry) (ne : Nat) (a b k : Int) (t0 t1 t3 : Tok) (hk3 : 3 ≤ k) (hk64 : k ≤ 64)
    (hl : (l, instObj 53 ld) ∈ news) (hld : (ld, dictOf es ne) ∈ news) (hw : getL "width" es = some (some (.int k t3)))
    (ha : a % 2 = 1) (hb : b % 2 = 1) :
    Claim prog w 14 232 news [.int (wrapI (a * b) k) t0, .int k t1, .ref l] (fun r => ∃ t, r = .int (wrapI (invI a k * invI b k) k) t) := by
  rw [← inv_mul hk3 ha hb]
  exact inverse_c prog w news l ld es ne _ k t0 t1 t3 hk3 hk64 hl hld hw (wrap_in _ _) (wrap_odd hk3 (odd_mul ha hb))
theorem made_mulI (prog : Program) (w : World) (news : List (Addr × Obj)) (l ld : Addr) (es : List DictEntry) (ne : Nat) (a b k : Int) (t0 t1 t2 t3 : Tok) (hk3 : 3 ≤ k) (hk64 : k ≤ 64)
    (hl : (l, instObj 53 ld) ∈ news) (hld : (ld, dictOf es ne) ∈ news) (hw : getL "width" es = some (some (.int k t3))) :
    Claim prog w 10 225 news [.int 2 t0, .int (invI a k) t1, .int (invI b k) t2, .ref l] (fun r => ∃ t, r = .int (wrapI (invI a k * invI b k) k) t) :=
  made_mul prog w news l ld es ne _ _ k t0 t1 t2 t3 hk3 hk64 hl hld hw (in_bound (inv_in a k) hk64).1 (in_bound (inv_in a k) hk64).2 (in_bound (inv_in b k) hk64).1 (in_bound (inv_in b k) hk64).2
theorem made_powI (prog : Program) (w : World) (news : List (Addr × Obj)) (l ld : Addr) (es : List DictEntry) (ne : Nat) (x k : Int) (t0 t1 t2 t3 : Tok) (hk3 : 3 ≤ k) (hk64 : k ≤ 64)
    (hl : (l, instObj 53 ld) ∈ news) (hld : (ld, dictOf es ne) ∈ news) (hw : getL "width" es = some (some (.int k t3)))
    (hx : -9223372036854775808 ≤ x) (hx2 : x ≤ 9223372036854775807) :
    Claim prog w 10 225 news [.int 5 t0, .int x t1, .int (1 * 2 ^ (k - 2).toNat - 1) t2, .ref l] (fun r => ∃ t, r = .int (invI x k) t) := by
  rw [← inv_pow hk3]
  exact made_pow prog w news l ld es ne x _ k t0 t1 t2 t3 hk3 hk64 hl hld hw hx hx2 (pow_y0 _) (pow_y1 hk64)

theorem limits_u {prog : Program} {w : World} {news : List (Addr × Obj)} {k : Int} {t : Tok}
    {loose : List Str} {mean : ExcName → Option Value} {mg mb : Str → Option Value}
    {dp un : Nat} {gd : Option (List Code)} {cn : Str} {cs : Scope} {a : Addr} {ccd : Value} {cl : List (Str × Addr)} {outer : List Env} {A₀ : Around} {base h₀ : Heap} {L : Addr} {m : Str → Option Value} {s : Shared} {Q E : Value → Shared → Prop}
    (Bl : Below A₀ base outer h₀) (F : Fr h₀ L s.heap m) (X : (hd.heap_39 w.params).In h₀) (N : News h₀ L s.heap news) (T : Top hd.view_39 loose mean mg mb h₀) (hk : cs.kind = .function)
    (hd : dp + 3 < recursionLimit) (hu : un + 8 * 3 < cLine)
    (hret : ∀ (x dx : Addr) (es : List DictEntry) (t' : Tok) (h' : Heap) (tk' : Nat), Fr h₀ L h' m → News h₀ L h' ((x, instObj 53 dx) :: (dx, dictOf es 10) :: news) → (∀ p ∈ news, p.1 < dx) → @LT.lt Nat _ dx x → getL "width" es = some (some (.int k t')) → Q (.ref x) { s with heap := h', toks := tk' }) :
    wpAny (model prog w) (ktrTop dp un gd cn cs L a ccd cl outer) (call (.ref 53) [] [(Str.ofString "width", .int k t)]) Q E s :=
  limits_c prog w news k t loose mean mg mb dp un gd cn cs a ccd cl outer A₀ base h₀ L m s Q E Bl F X N T hk hd hu hret

theorem words17 : True := by
  k_with "call ref" => ((k_here; (with_reducible show wpAny _ _ (call (Value.ref 53) _ _) _ _ _); k_dflt (refine' limits_u ?myHolekB ?myHolekF ?myHolekX ?myHolekN ?myHolekT ?myHolekK ?myHolekd ?myHoleku ?_; (case myHolekB => k_asm); (case myHolekF => k_asm); (case myHolekX => k_asm); (case myHolekN => k_asm); (case myHolekT => k_asm); (case myHolekK => first | exact rfl | assumption); (case myHolekd => first | k_room | ktr_room); (case myHoleku => first | exact Nat.le_of_ble_eq_true rfl | ktr_units); intro x9 d9 es9 t9 h9 tk9 F9 N9 l9 l9' g9; (try k_lt l9); (try dsimp only); (try k_fold); (try k_sweep))))
  k_with "CompSrc" => ((k_here; k_dflt (refine LCg.CompSrc.range (by rfl) (by k_asm) (by k_asm) (by assumption) (by first | decide | rfl) (by first | rfl | decide) (by first | size_fits | exact Nat.le_of_ble_eq_true rfl) ?_; intro g'; lcg_lit)))
  k_with "call ref" => ((k_here; (with_reducible show wpAny _ _ (call (Value.ref 218) [Value.int _ _, Value.int _ _]) _ _ _); k_dflt (refine' Claim.useX (left_u _ _ _ _ _ _ _ ?myHolek3 ?myHolek4 ?myHoleho) ?myHolekB ?myHolekF ?myHolekX ?myHolekN ?myHolekT ?myHolekK ?myHolekd ?myHoleku ?_; (case myHolekB => k_asm); (case myHolekF => k_asm); (case myHolekX => k_asm); (case myHolekN => k_asm); (case myHolekT => k_asm); (case myHolekK => first | exact rfl | assumption); (case myHolek3 => first | with_reducible assumption | exact add_3 (by with_reducible assumption) | omega); (case myHolek4 => first | with_reducible assumption | exact add_64 (by with_reducible assumption) | omega); (case myHoleho => first | exact odd_two _ | omega); (case myHolekd => first | k_room | ktr_room); (case myHoleku => first | exact Nat.le_of_ble_eq_true rfl | ktr_units); intro x9 t9 h9 tk9 F9 N9 i9 o9 lo9 hi9; (try dsimp only); (try k_fold); (try k_sweep))))
  k_with "call ref" => ((k_here; (with_reducible show wpAny _ _ (call (Value.ref 232) [Value.int _ _, Value.int _ _, Value.ref _]) _ _ _); k_dflt (refine' Claim.useI3 (inverse_u _ _ _ _ _ _ _ _ _ _ _ _ ?myHolek3 ?myHolek4 ?myHolehl ?myHolehm ?myHolehw ?myHolehx ?myHoleho) ?myHolekB ?myHolekF ?myHolekX ?myHolekN ?myHolekT ?myHolekK ?myHolekd ?myHoleku ?_; (case myHolekB => k_asm); (case myHolekF => k_asm); (case myHolekX => k_asm); (case myHolekN => k_asm); (case myHolekT => k_asm); (case myHolekK => first | exact rfl | assumption); (case myHolehl => k_mem); (case myHolehm => k_mem); (case myHolehw => first | assumption | k_get); (case myHolek3 => first | with_reducible assumption | exact add_3 (by with_reducible assumption) | omega); (case myHolek4 => first | with_reducible assumption | exact add_64 (by with_reducible assumption) | omega); (case myHolehx => first | assumption | exact inv_in _ _ | exact wrap_in _ _); (case myHoleho => first | assumption | exact inv_odd (by first | exact add_3 (by with_reducible assumption) | omega) (by assumption) | exact wrap_odd (by first | exact add_3 (by with_reducible assumption) | omega) (odd_mul (by assumption) (by assumption))); (case myHolekd => first | k_room | ktr_room); (case myHoleku => first | exact Nat.le_of_ble_eq_true rfl | ktr_units); intro t9 h9 tk9 F9 N9 lo9 hi9 way9; (try dsimp only); (try k_fold); (try k_sweep))))
  k_with "call ref" => ((k_here; (with_reducible show wpAny _ _ (call (Value.ref 232) [Value.int (wrapI (_ * _) _) _, Value.int _ _, Value.ref _]) _ _ _); k_dflt (refine' Claim.useI (inverse_m _ _ _ _ _ _ _ _ _ _ _ _ _ ?myHolek3 ?myHolek4 ?myHolehl ?myHolehm ?myHolehw ?myHolehx ?myHoleho) ?myHolekB ?myHolekF ?myHolekX ?myHolekN ?myHolekT ?myHolekK ?myHolekd ?myHoleku ?_; (case myHolekB => k_asm); (case myHolekF => k_asm); (case myHolekX => k_asm); (case myHolekN => k_asm); (case myHolekT => k_asm); (case myHolekK => first | exact rfl | assumption); (case myHolehl => k_mem); (case myHolehm => k_mem); (case myHolehw => first | assumption | k_get); (case myHolek3 => first | with_reducible assumption | exact add_3 (by with_reducible assumption) | omega); (case myHolek4 => first | with_reducible assumption | exact add_64 (by with_reducible assumption) | omega); (case myHolehx => with_reducible assumption); (case myHoleho => with_reducible assumption); (case myHolekd => first | k_room | ktr_room); (case myHoleku => first | exact Nat.le_of_ble_eq_true rfl | ktr_units); intro t9 h9 tk9 F9 N9; (try dsimp only); (try k_fold); (try k_sweep))))
  k_with "call ref" => ((k_here; (with_reducible show wpAny _ _ (call (Value.ref 225) [Value.int 5 _, Value.int _ _, Value.int (1 * 2 ^ _ - 1) _, Value.ref _]) _ _ _); k_dflt (refine' Claim.useI (made_powI _ _ _ _ _ _ _ _ _ _ _ _ _ ?myHolek3 ?myHolek4 ?myHolehl ?myHolehm ?myHolehw ?myHolehx ?myHoleho) ?myHolekB ?myHolekF ?myHolekX ?myHolekN ?myHolekT ?myHolekK ?myHolekd ?myHoleku ?_; (case myHolekB => k_asm); (case myHolekF => k_asm); (case myHolekX => k_asm); (case myHolekN => k_asm); (case myHolekT => k_asm); (case myHolekK => first | exact rfl | assumption); (case myHolehl => k_mem); (case myHolehm => k_mem); (case myHolehw => first | assumption | k_get); (case myHolek3 => first | with_reducible assumption | exact add_3 (by with_reducible assumption) | omega); (case myHolek4 => first | with_reducible assumption | exact add_64 (by with_reducible assumption) | omega); (case myHolehx => with_reducible assumption); (case myHoleho => with_reducible assumption); (case myHolekd => first | k_room | ktr_room); (case myHoleku => first | exact Nat.le_of_ble_eq_true rfl | ktr_units); intro t9 h9 tk9 F9 N9; (try dsimp only); (try k_fold); (try k_sweep))))
  k_with "call ref" => ((k_here; (with_reducible show wpAny _ _ (call (Value.ref 225) [Value.int 2 _, Value.int (invI _ _) _, Value.int (invI _ _) _, Value.ref _]) _ _ _); k_dflt (refine' Claim.useI (made_mulI _ _ _ _ _ _ _ _ _ _ _ _ _ _ ?myHolek3 ?myHolek4 ?myHolehl ?myHolehm ?myHolehw) ?myHolekB ?myHolekF ?myHolekX ?myHolekN ?myHolekT ?myHolekK ?myHolekd ?myHoleku ?_; (case myHolekB => k_asm); (case myHolekF => k_asm); (case myHolekX => k_asm); (case myHolekN => k_asm); (case myHolekT => k_asm); (case myHolekK => first | exact rfl | assumption); (case myHolehl => k_mem); (case myHolehm => k_mem); (case myHolehw => first | assumption | k_get); (case myHolek3 => first | with_reducible assumption | exact add_3 (by with_reducible assumption) | omega); (case myHolek4 => first | with_reducible assumption | exact add_64 (by with_reducible assumption) | omega); (case myHolekd => first | k_room | ktr_room); (case myHoleku => first | exact Nat.le_of_ble_eq_true rfl | ktr_units); intro t9 h9 tk9 F9 N9; (try dsimp only); (try k_fold); (try k_sweep))))
  k_with "call ref" => ((k_here; (with_reducible show wpAny _ _ (call (Value.ref 239) [Value.int _ _, Value.int _ _, Value.ref _]) _ _ _); k_dflt (refine' Claim.useV (squares_c _ _ _ _ _ _ _ _ _ _ _ _ ?myHolek3 ?myHolek4 ?myHolehl ?myHolehm ?myHolehw ?myHolehx ?myHoleho) ?myHolekB ?myHolekF ?myHolekX ?myHolekN ?myHolekT ?myHolekK ?myHolekd ?myHoleku ?_; (case myHolekB => k_asm); (case myHolekF => k_asm); (case myHolekX => k_asm); (case myHolekN => k_asm); (case myHolekT => k_asm); (case myHolekK => first | exact rfl | assumption); (case myHolehl => k_mem); (case myHolehm => k_mem); (case myHolehw => first | assumption | k_get); (case myHolek3 => first | with_reducible assumption | exact add_3 (by with_reducible assumption) | omega); (case myHolek4 => first | with_reducible assumption | exact add_64 (by with_reducible assumption) | omega); (case myHolehx => assumption); (case myHoleho => assumption); (case myHolekd => first | k_room | ktr_room); (case myHoleku => first | exact Nat.le_of_ble_eq_true rfl | ktr_units); intro h9 tk9 F9 N9; (try dsimp only); (try k_fold); (try k_sweep))))
  k_with "call ref" => ((k_here; (with_reducible show wpAny _ _ (call (Value.ref 246) [Value.int _ _, Value.ref _]) _ _ _); k_dflt (refine' ClaimL.use (allodd_c _ _ _ _ _ _ _ _ _ _ ?myHolek3 ?myHolek4 ?myHolehl ?myHolehm ?myHolehw) ?myHolekB ?myHolekF ?myHolekX ?myHolekN ?myHolekT ?myHolekK ?myHolekd ?myHoleku ?_; (case myHolekB => k_asm); (case myHolekF => k_asm); (case myHolekX => k_asm); (case myHolekN => k_asm); (case myHolekT => k_asm); (case myHolekK => first | exact rfl | assumption); (case myHolehl => k_mem); (case myHolehm => k_mem); (case myHolehw => first | assumption | k_get); (case myHolek3 => first | with_reducible assumption | exact add_3 (by with_reducible assumption) | omega); (case myHolek4 => first | with_reducible assumption | exact add_64 (by with_reducible assumption) | omega); (case myHolekd => first | k_room | ktr_room); (case myHoleku => first | exact Nat.le_of_ble_eq_true rfl | ktr_units); intro D9 ws9 c9 h9 tk9 F9 N9 l9 I9; (try k_lt l9); (try dsimp only); (try k_fold); (try k_sweep))))
  k_with "call ref" => ((k_here; (with_reducible show wpAny _ _ (call (Value.ref 211) [Value.ref _, Value.int _ _]) _ _ _); k_dflt (refine' told_u ?myHolekB ?myHolekF ?myHolekX ?myHolekN ?myHolekT ?myHolekK ?myHoled ?myHoleU ?myHoleD ?myHolelt ?myHoleI ?myHolelen ?myHolei0 ?myHolei1 ?myHolem1 ?myHolem2 ?myHolekd ?myHoleku ?_; (case myHolekB => k_asm); (case myHolekF => k_asm); (case myHolekX => k_asm); (case myHolekN => k_asm); (case myHolekT => k_asm); (case myHolekK => first | exact rfl | assumption); (case myHoled => assumption); (case myHoleU => k_updF); (case myHoleD => k_mem); (case myHolelt => first | exact And.left (by with_reducible assumption) | omega); (case myHoleI => assumption); (case myHolelen => first | exact List.length_take_le _ _ | omega); (case myHolei0 => first | decide | omega); (case myHolei1 => first | decide | omega); (case myHolem1 => decide +kernel); (case myHolem2 => decide +kernel); (case myHolekd => first | k_room | ktr_room); (case myHoleku => first | exact Nat.le_of_ble_eq_true rfl | ktr_units); intro v9 t9 t9' o9 h9 tk9 F9 N9 hd9 lo9 hi9; (try dsimp only at N9); (try dsimp only); (try k_fold); (try k_sweep))))
  k_with "call ref" => ((k_here; ((first | (with_reducible rename @Ne Addr _ _ ∧ _ => hc9) | (with_reducible rename (@Ne Addr _ _ ∧ _) ∧ _ => hc9) | (with_reducible rename @LT.lt Nat _ _ _ ∧ _ => hc9)); (have hx9 := And.left hc9); (have hy9 := And.right hc9); (clear hc9)); repeat ((first | (with_reducible rename @Ne Addr _ _ ∧ _ => hc9) | (with_reducible rename (@Ne Addr _ _ ∧ _) ∧ _ => hc9) | (with_reducible rename @LT.lt Nat _ _ _ ∧ _ => hc9)); (have hx9 := And.left hc9); (have hy9 := And.right hc9); (clear hc9))))
  trivial
set_option maxRecDepth 100000 in
set_option maxHeartbeats 8000000 in
theorem law_true : PySem.Challenge.rw_tk0054_01.Holds := hd (by
  w_strict k_go)
end Mine

theorem PySem.Challenge.cw_tk0054_01_holds : PySem.Challenge.rw_tk0054_01.Holds :=
  Mine.law_true
