import PyProof.Rows.All
import Wide.All
import OpenK.AllK
import Wide.FinOn
import PySem.Challenge.RW_nt0405_01
open PySem PySem.W PySem.Calls PyProof.Rows
open PySem.Builtin.Int (intBits)
set_option Elab.async false
set_option maxRecDepth 100000
set_option maxHeartbeats 8000000
set_option linter.unusedVariables false
namespace Mine

local macro_rules | `(tactic| is_list) => `(tactic| k_extra "my is_list")
local macro_rules | `(tactic| k_memK) => `(tactic| k_extra "my k_memK")
local macro_rules | `(tactic| walk_at "binaryOp FloorDiv int int") => `(tactic| k_extra "my binaryOp FloorDiv int int")
local macro_rules | `(tactic| walk_at "binaryOp LShift int int") => `(tactic| k_extra "my binaryOp LShift int int")
local macro_rules | `(tactic| walk_at "binaryOp Mod int int") => `(tactic| k_extra "my binaryOp Mod int int")
local macro_rules | `(tactic| walk_at "binaryOp Mult int int") => `(tactic| k_extra "my binaryOp Mult int int")
local macro_rules | `(tactic| walk_at "binaryOp Pow int int") => `(tactic| k_extra "my binaryOp Pow int int")
local macro_rules | `(tactic| walk_at "call ref") => `(tactic| k_extra "my call ref")
local macro_rules | `(tactic| walk_at "compareOp Eq ref ref") => `(tactic| k_extra "my compareOp Eq ref ref")
local macro_rules | `(tactic| walk_at "eval Call") => `(tactic| k_extra "my eval Call")
local macro_rules | `(tactic| walk_at "exec While") => `(tactic| k_extra "my exec While")
local macro_rules | `(tactic| walk_at "subscriptTail Call Name cons nil Slice ref ref") => `(tactic| k_extra "my subscriptTail Call Name cons nil Slice ref ref")
local macro_rules | `(tactic| walk_at "subscriptTail") => `(tactic| k_extra "my subscriptTail")
local macro_rules | `(tactic| bits_by_make) => `(tactic| (with_reducible assumption))

/-! HdA -/
section
open_top hd for PySem.Challenge.rw_nt0405_01
end

/-! WBase -/
section
abbrev tup3 (x y z : Int) (t u v : Tok) (c : Nat) : Obj := { cls := .type "tuple", data := .seq #[.int x t, .int y u, .int z v] c }

/-- What a call of the def at `f` with the arguments `vs` gives back, from any frame with room for `k` frames more: `C` says the rest. -/
def TellsG (w : World) (mean : ExcName → Option Value) (mg mb : Str → Option Value) (f : Addr) (k : Nat) (vs : List Value)
    (C : Heap → Addr → (Str → Option Value) → List (Addr × Obj) → Shared → (Value → Shared → Prop) → Prop) : Prop :=
  ∀ (dp un : Nat) (gd : Option (List Code)) (cn : Str) (cs : Scope) (a : Addr) (ccd : Value) (cl : List (Str × Addr)) (outer : List Env) (A₀ : Around) (base h₀ : Heap) (L : Addr) (m : Str → Option Value) (news : List (Addr × Obj)) (s : Shared) (Q E : Value → Shared → Prop),
    Below A₀ base outer h₀ → Fr h₀ L s.heap m → (hd.heap_39 w.params).In h₀ → News h₀ L s.heap news →
    Top hd.view_39 (looseW hd.view_39 [Str.ofString "SIGN_BIT", Str.ofString "FRACTION_MASK", Str.ofString "HIDDEN_BIT", Str.ofString "INF", Str.ofString "NAN"]) mean mg mb h₀ →
    cs.kind = .function → dp + k < recursionLimit → un + 8 * k < cLine →
    C h₀ L m news s Q →
    wpAny (model PySem.Challenge.rw_nt0405_01.row.prog w) (ktrTop dp un gd cn cs L a ccd cl outer) (call (.ref f) vs) Q E s

def BackI (x : Int) (h₀ : Heap) (L : Addr) (m : Str → Option Value) (news : List (Addr × Obj)) (s : Shared) (Q : Value → Shared → Prop) : Prop :=
  ∀ (t : Tok) (h' : Heap) (tk' : Nat), Fr h₀ L h' m → News h₀ L h' news → Q (.int x t) { s with heap := h', toks := tk' }
def BackB (x : Bool) (h₀ : Heap) (L : Addr) (m : Str → Option Value) (news : List (Addr × Obj)) (s : Shared) (Q : Value → Shared → Prop) : Prop :=
  ∀ (h' : Heap) (tk' : Nat), Fr h₀ L h' m → News h₀ L h' news → Q (.bool x) { s with heap := h', toks := tk' }
def BackP (P : Int → Prop) (h₀ : Heap) (L : Addr) (m : Str → Option Value) (news : List (Addr × Obj)) (s : Shared) (Q : Value → Shared → Prop) : Prop :=
  ∀ (x : Int) (t : Tok) (h' : Heap) (tk' : Nat), P x → Fr h₀ L h' m → News h₀ L h' news → Q (.int x t) { s with heap := h', toks := tk' }
def BackT (x y z : Int) (h₀ : Heap) (L : Addr) (m : Str → Option Value) (news : List (Addr × Obj)) (s : Shared) (Q : Value → Shared → Prop) : Prop :=
  ∀ (D : Addr) (t u v : Tok) (c : Nat) (h' : Heap) (tk' : Nat), Fr h₀ L h' m → News h₀ L h' ((D, tup3 x y z t u v c) :: news) → AllLt D news → Q (.ref D) { s with heap := h', toks := tk' }

section
variable {w : World} {mean : ExcName → Option Value} {mg mb : Str → Option Value} {f : Addr} {k : Nat} {vs : List Value}
  {C : Heap → Addr → (Str → Option Value) → List (Addr × Obj) → Shared → (Value → Shared → Prop) → Prop}
  {dp un : Nat} {gd : Option (List Code)} {cn : Str} {cs : Scope} {a : Addr} {ccd : Value} {cl : List (Str × Addr)} {outer : List Env} {A₀ : Around} {base h₀ : Heap} {L : Addr} {m : Str → Option Value} {news : List (Addr × Obj)} {s : Shared} {Q E : Value → Shared → Prop}
theorem TellsG.use (H : TellsG w mean mg mb f k vs C) (B : Below A₀ base outer h₀) (F : Fr h₀ L s.heap m) (X : (hd.heap_39 w.params).In h₀) (N : News h₀ L s.heap news)
    (T : Top hd.view_39 (looseW hd.view_39 [Str.ofString "SIGN_BIT", Str.ofString "FRACTION_MASK", Str.ofString "HIDDEN_BIT", Str.ofString "INF", Str.ofString "NAN"]) mean mg mb h₀)
    (hk : cs.kind = .function) (hd : dp + k < recursionLimit) (hu : un + 8 * k < cLine) (c : C h₀ L m news s Q) :
    wpAny (model PySem.Challenge.rw_nt0405_01.row.prog w) (ktrTop dp un gd cn cs L a ccd cl outer) (call (.ref f) vs) Q E s :=
  H _ _ _ _ _ _ _ _ _ _ _ _ _ _ _ _ _ _ B F X N T hk hd hu c
theorem backI {x y : Int} {t : Tok} {h' : Heap} {tk' : Nat} (ret : BackI x h₀ L m news s Q) (e : y = x) (F : Fr h₀ L h' m) (N : News h₀ L h' news) : Q (.int y t) { s with heap := h', toks := tk' } := by
  subst e; exact ret _ _ _ F N
theorem backB {x y : Bool} {h' : Heap} {tk' : Nat} (ret : BackB x h₀ L m news s Q) (e : y = x) (F : Fr h₀ L h' m) (N : News h₀ L h' news) : Q (.bool y) { s with heap := h', toks := tk' } := by
  subst e; exact ret _ _ F N
theorem backP {P : Int → Prop} {y : Int} {t : Tok} {h' : Heap} {tk' : Nat} (ret : BackP P h₀ L m news s Q) (e : P y) (F : Fr h₀ L h' m) (N : News h₀ L h' news) : Q (.int y t) { s with heap := h', toks := tk' } :=
  ret _ _ _ _ e F N
theorem backT {x y z x' y' z' : Int} {D : Addr} {t u v : Tok} {c : Nat} {h' : Heap} {tk' : Nat} {rest : List (Addr × Obj)} (ret : BackT x y z h₀ L m news s Q) (e1 : x' = x) (e2 : y' = y) (e3 : z' = z) (F : Fr h₀ L h' m)
    (N : News h₀ L h' ((D, tup3 x' y' z' t u v c) :: rest)) (hs : ∀ p ∈ news, p ∈ rest) (l : AllLt D news) : Q (.ref D) { s with heap := h', toks := tk' } := by
  subst e1; subst e2; subst e3
  exact ret _ _ _ _ _ _ _ F (fun p hp => by
    rcases List.mem_cons.mp hp with rfl | hp
    · exact N _ (.head _)
    · exact N p (.tail _ (hs p hp))) l
theorem news_head {D : Addr} {o : Obj} {h' : Heap} (N : News h₀ L h' ((D, o) :: news)) : News h₀ L h' news := fun p hp => N p (.tail _ hp)
end
end

/-! M1 -/
section
theorem p2pos (k : Nat) : (0 : Int) < 2 ^ k := kbt_pos k
theorem p2add (a b : Nat) : (2 : Int) ^ (a + b) = 2 ^ a * 2 ^ b := Int.pow_add 2 a b

/-! widths -/
theorem bits_lo {n : Int} (h : 0 < n) : ∃ b, intBits n = b + 1 ∧ (2 : Int) ^ b ≤ n ∧ n < 2 ^ (b + 1) := by
  refine ⟨n.natAbs.log2, ?_, ?_, ?_⟩
  · unfold intBits
    rw [if_neg (by simpa using (by omega : n ≠ 0))]
  · have h1 := Nat.log2_self_le (n := n.natAbs) (by omega)
    have h2 := kbt_cast n.natAbs.log2
    omega
  · have h1 := @Nat.lt_log2_self n.natAbs
    have h2 := kbt_cast (n.natAbs.log2 + 1)
    omega
theorem bits_unique {n : Int} {b : Nat} (h1 : (2 : Int) ^ b ≤ n) (h2 : n < 2 ^ (b + 1)) : intBits n = b + 1 := by
  have hp := p2pos b
  unfold intBits
  rw [if_neg (by simpa using (by omega : n ≠ 0))]
  have e1 := kbt_cast b
  have e2 := kbt_cast (b + 1)
  have : n.natAbs.log2 = b := (Nat.log2_eq_iff (by omega)).mpr ⟨by omega, by omega⟩
  omega
theorem ediv_bounds (n : Int) {d : Int} (hd : 0 < d) : d * (n / d) ≤ n ∧ n < d * (n / d) + d := by
  have h1 := Int.mul_ediv_add_emod n d
  have h2 := Int.emod_nonneg n (by omega : d ≠ 0)
  have h3 := Int.emod_lt_of_pos n hd
  omega
theorem mul_le_mul_l {a b c : Int} (hc : 0 ≤ c) (h : a ≤ b) : c * a ≤ c * b := Int.mul_le_mul_of_nonneg_left h hc
theorem mul_lt_mul_l {a b c : Int} (hc : 0 < c) (h : a < b) : c * a < c * b := Int.mul_lt_mul_of_pos_left h hc
theorem lt_of_mul_l {a b c : Int} (hc : 0 < c) (h : c * a < c * b) : a < b := Int.lt_of_mul_lt_mul_left h (Int.le_of_lt hc)
theorem le_of_mul_l {a b c : Int} (hc : 0 < c) (h : c * a ≤ c * b) : a ≤ b := Int.le_of_mul_le_mul_left h hc

theorem wid_shift {n : Int} (k : Nat) (h : 2 ^ k ≤ n) : (intBits n : Int) = (intBits (n.fdiv (2 ^ k)) : Int) + k := by
  have hp := p2pos k
  rw [Int.fdiv_eq_ediv_of_nonneg _ (Int.le_of_lt hp)]
  obtain ⟨b1, b2⟩ := ediv_bounds n hp
  have hq : 0 < n / 2 ^ k := by
    refine lt_of_mul_l hp ?_
    rw [Int.mul_zero]; omega
  obtain ⟨b, e, l1, l2⟩ := bits_lo hq
  have m1 := mul_le_mul_l (Int.le_of_lt hp) l1
  have m2 := mul_le_mul_l (Int.le_of_lt hp) (show n / 2 ^ k + 1 ≤ 2 ^ (b + 1) by omega)
  rw [← p2add] at m1 m2
  rw [Int.mul_add, Int.mul_one] at m2
  have hu : intBits n = (k + b) + 1 := bits_unique (by omega) (by rw [Nat.add_assoc]; omega)
  rw [hu, e]
  omega
theorem fdiv_lt {n : Int} (k : Nat) (hk : 0 < k) (h : 0 < n) : 0 ≤ n.fdiv (2 ^ k) ∧ (n.fdiv (2 ^ k)).toNat < n.toNat := by
  have hp := p2pos k
  rw [Int.fdiv_eq_ediv_of_nonneg _ (Int.le_of_lt hp)]
  have h2 : (1 : Int) < 2 ^ k := by
    obtain ⟨j, rfl⟩ : ∃ j, k = j + 1 := ⟨k - 1, by omega⟩
    have := p2pos j
    rw [Int.pow_succ]; omega
  obtain ⟨b1, b2⟩ := ediv_bounds n hp
  have h0 : 0 ≤ n / 2 ^ k := Int.ediv_nonneg (by omega) (by omega)
  refine ⟨h0, ?_⟩
  have : n / 2 ^ k < n := by
    rcases (show n / 2 ^ k = 0 ∨ 0 < n / 2 ^ k by omega) with e | e
    · omega
    · have := mul_lt_mul_l e h2
      rw [Int.mul_one, Int.mul_comm] at this
      omega
  omega
theorem wid_st64 {n₀ n many : Int} (h0 : 0 ≤ n) (hm : 0 ≤ many) (e : (intBits n₀ : Int) = intBits n + many) (h : 1 * 2 ^ Int.toNat 64 ≤ n) :
    0 ≤ n.fdiv (2 ^ Int.toNat 64) ∧ 0 ≤ many + 64 ∧ (intBits n₀ : Int) = intBits (n.fdiv (2 ^ Int.toNat 64)) + (many + 64) := by
  rw [Int.one_mul] at h
  have e2 := wid_shift _ h
  have hp := p2pos (Int.toNat 64)
  have hk : ((Int.toNat 64 : Nat) : Int) = 64 := rfl
  rw [hk] at e2
  exact ⟨(fdiv_lt _ (by decide) (by omega)).1, by omega, by omega⟩
theorem wid_st1 {n₀ n many : Int} (h0 : 0 ≤ n) (hm : 0 ≤ many) (e : (intBits n₀ : Int) = intBits n + many) (h : 0 < n) :
    0 ≤ n.fdiv (2 ^ Int.toNat 1) ∧ 0 ≤ many + 1 ∧ (intBits n₀ : Int) = intBits (n.fdiv (2 ^ Int.toNat 1)) + (many + 1) := by
  have e1 : (intBits n : Int) = intBits (n.fdiv (2 ^ Int.toNat 1)) + 1 := by
    rcases (show n = 1 ∨ 2 ≤ n by omega) with h1 | h1
    · subst h1; decide
    · exact wid_shift 1 (by omega)
  exact ⟨(fdiv_lt _ (by decide) h).1, by omega, by omega⟩
theorem wid_m64 {n : Int} (h : 1 * 2 ^ Int.toNat 64 ≤ n) : (n.fdiv (2 ^ Int.toNat 64)).toNat < n.toNat := by
  have hp := p2pos (Int.toNat 64)
  exact (fdiv_lt _ (by decide) (by omega)).2
theorem wid_m1 {n : Int} (h : 0 < n) : (n.fdiv (2 ^ Int.toNat 1)).toNat < n.toNat := (fdiv_lt _ (by decide) h).2
theorem wid_end {n₀ n many : Int} (h : ¬ 0 < n) (e : (intBits n₀ : Int) = intBits n + many) (h0 : 0 ≤ n) : many = intBits n₀ := by
  have : n = 0 := by omega
  subst this
  rw [e]; show many = ((0 : Nat) : Int) + many; omega

theorem noPl {x y : Int} {m : Nat} (h : intBits y ≤ m) (hm : m ≤ 9000) : Builtin.divisionGoesByPylong x y = false := by
  refine PyProof.noPylong_of_log2 ?_
  unfold intBits at h
  by_cases e : y = 0
  · subst e; decide
  · rw [if_neg (by simpa using e)] at h
    omega
theorem bits_shl {b k : Int} {m n : Nat} (h : intBits b ≤ m) (hk : k ≤ n) : intBits (b * 2 ^ k.toNat) ≤ m + n := by
  have h1 := PySem.intBits_le_iff.mp h
  refine PySem.intBits_le_iff.mpr ?_
  rw [Int.natAbs_mul]
  have e : ((2 : Int) ^ k.toNat).natAbs = 2 ^ k.toNat := by
    have := kbt_cast k.toNat
    have := p2pos k.toNat
    omega
  rw [e]
  refine Nat.lt_of_lt_of_le (Nat.mul_lt_mul_of_pos_right h1 (Nat.pow_pos (by decide))) ?_
  rw [← Nat.pow_add]
  exact Nat.pow_le_pow_right (by decide) (by omega)
theorem noPl_shl {x b k : Int} (h : intBits b ≤ 4000) (hk : k ≤ 4000) : Builtin.divisionGoesByPylong x (b * 2 ^ k.toNat) = false :=
  noPl (bits_shl h hk) (by decide)
theorem ne_shift {b : Int} {k : Nat} (h : 0 < b) : b * 2 ^ k ≠ 0 := by
  have := Int.mul_pos h (p2pos k)
  omega

/-! bits -/
theorem bitOr_low {a c : Int} (k : Nat) (h0 : 0 ≤ a) (h1 : a < 2 ^ k) (hc : 0 ≤ c) : Builtin.bitOr a (c * 2 ^ k) = a + c * 2 ^ k := by
  have hz : Builtin.bitAnd a (c * 2 ^ k) = 0 := by
    have hp := p2pos k
    have hc2 : 0 ≤ c * 2 ^ k := Int.mul_nonneg hc (Int.le_of_lt hp)
    rw [bitAnd_pp h0 hc2]
    have e := kbt_cast k
    have ea : a.toNat < 2 ^ k := by omega
    have ec : (c * 2 ^ k).toNat = 2 ^ k * c.toNat := by
      have : ((c * 2 ^ k).toNat : Int) = ((2 ^ k * c.toNat : Nat) : Int) := by
        rw [Int.toNat_of_nonneg hc2, Int.natCast_mul, Int.toNat_of_nonneg hc, e, Int.mul_comm]
      exact Int.ofNat.inj this
    rw [ec]
    have h3 := Nat.two_pow_add_eq_or_of_lt ea c.toNat
    have h4 := nat_or_add_and (2 ^ k * c.toNat) a.toNat
    rw [← h3] at h4
    rw [Nat.and_comm]
    omega
  rw [bitOr_and, hz]; omega
theorem bitOr_comm' (a b : Int) : Builtin.bitOr a b = Builtin.bitOr b a := by rw [bitOr_and, bitOr_and, bitAnd_comm]; omega
theorem mask63 (n : Int) : Builtin.bitAnd n (9223372036854775808 - 1) = n % 2 ^ 63 := kbt_mask n 63
theorem mask52 (n : Int) : Builtin.bitAnd n 4503599627370495 = n % 2 ^ 52 := kbt_mask n 52
theorem mask11 (n : Int) : Builtin.bitAnd n 2047 = n % 2048 := kbt_mask n 11
theorem shr (n : Int) (k : Nat) : n.fdiv (2 ^ k) = n / 2 ^ k := Int.fdiv_eq_ediv_of_nonneg _ (Int.le_of_lt (p2pos k))
theorem mdr (n : Int) (k : Nat) : n.fmod (2 ^ k) = n % 2 ^ k := Int.fmod_eq_emod_of_nonneg _ (Int.le_of_lt (p2pos k))
end

/-! M2 -/
section
/-! what the text's small functions give back -/
def sz (n : Int) : Int := if n / 2 ^ 52 % 2048 = 0 then n % 2 ^ 52 else (n % 2 ^ 52 + 2 ^ 52) * 2 ^ (n / 2 ^ 52 % 2048 - 1).toNat
def kd (n : Int) : Int := if 9218868437227405312 < n % 2 ^ 63 then 2 else if n % 2 ^ 63 = 9218868437227405312 then 1 else 0
def pm (n : Int) : Int := if n / 2 ^ 52 % 2048 = 0 then n % 2 ^ 52 else n % 2 ^ 52 + 2 ^ 52
def pw (n : Int) : Int := if n / 2 ^ 52 % 2048 = 0 then -1074 else n / 2 ^ 52 % 2048 - 1075
def qt (top power : Int) : Int := if 0 ≤ power then top else top * 2 ^ (-power).toNat
def qb (bottom power : Int) : Int := if 0 ≤ power then bottom * 2 ^ power.toNat else bottom
def asmf (whole power : Int) : Int :=
  if whole = 2 ^ 53 then (if 2047 ≤ power + 1 + 1075 then 9218868437227405312 else (power + 1 + 1075) * 2 ^ 52)
  else if whole < 2 ^ 52 then whole
  else if 2047 ≤ power + 1075 then 9218868437227405312 else (power + 1075) * 2 ^ 52 + (whole - 2 ^ 52)
def rpw0 (top bottom : Int) : Int := if -1074 > (intBits top : Int) - intBits bottom - 53 then -1074 else (intBits top : Int) - intBits bottom - 53
def rpw (top bottom : Int) : Int := if 2 ^ 53 ≤ qt top (rpw0 top bottom) / qb bottom (rpw0 top bottom) then rpw0 top bottom + 1 else rpw0 top bottom
def rup (whole rest unit : Int) : Int := if unit < 2 * rest ∨ (2 * rest = unit ∧ whole % 2 = 1) then whole + 1 else whole
def rwh (top bottom : Int) : Int :=
  rup (qt top (rpw top bottom) / qb bottom (rpw top bottom)) (qt top (rpw top bottom) % qb bottom (rpw top bottom)) (qb bottom (rpw top bottom))
def rrf (top bottom : Int) : Int := if top = 0 then 0 else asmf (rwh top bottom) (rpw top bottom)
def rsf (m power : Int) : Int :=
  if m = 0 ∨ (intBits m : Int) + power ≤ -1075 then 0
  else if 1024 < (intBits m : Int) + power then 9218868437227405312
  else if 0 ≤ power then rrf (m * 2 ^ power.toNat) 1 else rrf m (1 * 2 ^ (-power).toNat)

theorem shl53 : (4503599627370496 : Int) * 2 ^ Int.toNat 1 = 2 ^ 53 := by decide
theorem parts1 {n : Int} : n.fdiv (2 ^ Int.toNat 63) = n / 2 ^ 63 := shr n 63
theorem parts_e (n : Int) : Builtin.bitAnd (n.fdiv (2 ^ Int.toNat 52)) 2047 = n / 2 ^ 52 % 2048 := by rw [mask11, shr]; rfl
theorem hidden {a : Int} (h0 : 0 ≤ a) (h1 : a < 2 ^ 52) : Builtin.bitOr a 4503599627370496 = a + 2 ^ 52 := bitOr_low (c := 1) 52 h0 h1 (by decide)
theorem signed_v {g n : Int} (h : g = 0 ∨ g = 1) : Builtin.bitOr (Builtin.bitAnd n (9223372036854775808 - 1)) (g * 2 ^ Int.toNat 63) = g * 2 ^ 63 + n % 2 ^ 63 := by
  show Builtin.bitOr _ (g * 2 ^ 63) = _
  rw [mask63, bitOr_low 63 (Int.emod_nonneg _ (by decide)) (Int.emod_lt_of_pos _ (by decide)) (by omega), Int.add_comm]
theorem pack_v {g e f : Int} (h : g = 0 ∨ g = 1) (h0 : 0 ≤ e) (h1 : e < 2048) (hf : 0 ≤ f) (hf2 : f < 2 ^ 52) :
    Builtin.bitOr (Builtin.bitOr (g * 2 ^ Int.toNat 63) (e * 2 ^ Int.toNat 52)) f = g * 2 ^ 63 + (e * 2 ^ 52 + f) := by
  rw [bitOr_comm' (g * _) _, bitOr_low (a := e * 2 ^ Int.toNat 52) (c := g) (Int.toNat 63) (by show (0 : Int) ≤ e * 2 ^ 52; omega) (by show e * (2 : Int) ^ 52 < 2 ^ 63; omega) (by omega)]
  have e1 : e * 2 ^ Int.toNat 52 + g * 2 ^ Int.toNat 63 = (e + g * 2 ^ 11) * 2 ^ 52 := by
    show e * (2 : Int) ^ 52 + g * 2 ^ 63 = (e + g * 2 ^ 11) * 2 ^ 52
    omega
  rw [e1, bitOr_comm', bitOr_low 52 hf hf2 (by omega)]
  omega
theorem kd_2 {n : Int} (h : 9218868437227405312 < n.fmod (2 ^ Int.toNat 63)) : (2 : Int) = kd n := by
  have e : n.fmod (2 ^ Int.toNat 63) = n % 2 ^ 63 := mdr n 63
  rw [e] at h
  unfold kd
  rw [if_pos h]
theorem kd_1 {n : Int} (h : n.fmod (2 ^ Int.toNat 63) = 9218868437227405312) : (1 : Int) = kd n := by
  have e : n.fmod (2 ^ Int.toNat 63) = n % 2 ^ 63 := mdr n 63
  rw [e] at h
  unfold kd
  rw [if_neg (by omega), if_pos h]
theorem kd_0 {n : Int} (h : ¬ 9218868437227405312 < n.fmod (2 ^ Int.toNat 63)) (h2 : n.fmod (2 ^ Int.toNat 63) ≠ 9218868437227405312) : (0 : Int) = kd n := by
  have e : n.fmod (2 ^ Int.toNat 63) = n % 2 ^ 63 := mdr n 63
  rw [e] at h h2
  unfold kd
  rw [if_neg h, if_neg h2]
theorem sz_e (n : Int) : (n.fdiv (2 ^ Int.toNat 52)).fmod 2048 = n / 2 ^ 52 % 2048 := by
  have e1 : n.fdiv (2 ^ Int.toNat 52) = n / 2 ^ 52 := shr n 52
  rw [e1]
  exact mdr _ 11
theorem sz_0 {n : Int} (h : (n.fdiv (2 ^ Int.toNat 52)).fmod 2048 = 0) : n.fmod (2 ^ Int.toNat 52) = sz n := by
  rw [sz_e] at h
  have e : n.fmod (2 ^ Int.toNat 52) = n % 2 ^ 52 := mdr n 52
  unfold sz
  rw [if_pos h, e]
theorem sz_1 {n : Int} (h : (n.fdiv (2 ^ Int.toNat 52)).fmod 2048 ≠ 0) :
    (n.fmod (2 ^ Int.toNat 52) + 2 ^ Int.toNat 52) * 2 ^ ((n.fdiv (2 ^ Int.toNat 52)).fmod 2048 - 1).toNat = sz n := by
  rw [sz_e] at h ⊢
  have e : n.fmod (2 ^ Int.toNat 52) = n % 2 ^ 52 := mdr n 52
  unfold sz
  rw [if_neg h, e]
  rfl
theorem pm_0 {n : Int} (h : Builtin.bitAnd (n.fdiv (2 ^ Int.toNat 52)) 2047 = 0) : Builtin.bitAnd n 4503599627370495 = pm n := by
  rw [parts_e] at h
  unfold pm
  rw [if_pos h, mask52]
theorem pw_0 {n : Int} (h : Builtin.bitAnd (n.fdiv (2 ^ Int.toNat 52)) 2047 = 0) : (-1074 : Int) = pw n := by
  rw [parts_e] at h
  unfold pw
  rw [if_pos h]
theorem pm_1 {n : Int} (h : Builtin.bitAnd (n.fdiv (2 ^ Int.toNat 52)) 2047 ≠ 0) : Builtin.bitOr (Builtin.bitAnd n 4503599627370495) 4503599627370496 = pm n := by
  rw [parts_e] at h
  unfold pm
  rw [if_neg h, mask52, hidden (Int.emod_nonneg _ (by decide)) (Int.emod_lt_of_pos _ (by decide))]
theorem pw_1 {n : Int} (h : Builtin.bitAnd (n.fdiv (2 ^ Int.toNat 52)) 2047 ≠ 0) : Builtin.bitAnd (n.fdiv (2 ^ Int.toNat 52)) 2047 - 1075 = pw n := by
  rw [parts_e] at h ⊢
  unfold pw
  rw [if_neg h]
theorem fdv {x y : Int} (h : 0 < y) : x.fdiv y = x / y := Int.fdiv_eq_ediv_of_nonneg _ (Int.le_of_lt h)
theorem fmd {x y : Int} (h : 0 < y) : x.fmod y = x % y := Int.fmod_eq_emod_of_nonneg _ (Int.le_of_lt h)
theorem qb_pos {bottom power : Int} (hb : 0 < bottom) : 0 < qb bottom power := by
  unfold qb
  split
  · exact Int.mul_pos hb (p2pos _)
  · exact hb
theorem q_p {top bottom power : Int} (hb : 0 < bottom) (h : 0 ≤ power) : top.fdiv (bottom * 2 ^ power.toNat) = qt top power / qb bottom power ∧ top.fmod (bottom * 2 ^ power.toNat) = qt top power % qb bottom power ∧ bottom * 2 ^ power.toNat = qb bottom power := by
  unfold qt qb
  rw [if_pos h, if_pos h]
  exact ⟨fdv (Int.mul_pos hb (p2pos _)), fmd (Int.mul_pos hb (p2pos _)), rfl⟩
theorem q_n {top bottom power : Int} (hb : 0 < bottom) (h : ¬ 0 ≤ power) : (top * 2 ^ (-power).toNat).fdiv bottom = qt top power / qb bottom power ∧ (top * 2 ^ (-power).toNat).fmod bottom = qt top power % qb bottom power ∧ bottom = qb bottom power := by
  unfold qt qb
  rw [if_neg h, if_neg h]
  exact ⟨fdv hb, fmd hb, rfl⟩
theorem asm_a {g whole power : Int} (h : whole = 4503599627370496 * 2 ^ Int.toNat 1) (h2 : 2047 ≤ power + 1 + 1075) : g * 2 ^ 63 + 9218868437227405312 % 2 ^ 63 = g * 2 ^ 63 + asmf whole power := by
  rw [shl53] at h
  unfold asmf
  rw [if_pos h, if_pos h2]
  rfl
theorem asm_b {g whole power : Int} (h : whole = 4503599627370496 * 2 ^ Int.toNat 1) (h2 : ¬ 2047 ≤ power + 1 + 1075) : g * 2 ^ 63 + ((power + 1 + 1075) * 2 ^ 52 + (4503599627370496 - 4503599627370496)) = g * 2 ^ 63 + asmf whole power := by
  rw [shl53] at h
  unfold asmf
  rw [if_pos h, if_neg h2]
  omega
theorem asm_c {g whole power : Int} (hg : g = 0 ∨ g = 1) (h0 : 0 ≤ whole) (h : whole ≠ 4503599627370496 * 2 ^ Int.toNat 1) (h2 : whole < 4503599627370496) : Builtin.bitOr (g * 2 ^ Int.toNat 63) whole = g * 2 ^ 63 + asmf whole power := by
  rw [shl53] at h
  unfold asmf
  rw [if_neg h, if_pos (by omega)]
  have e : g * 2 ^ Int.toNat 63 = g * 2 ^ 63 := rfl
  rw [e, bitOr_comm', bitOr_low 63 h0 (by omega) (by omega)]
  omega
theorem asm_d {g whole power : Int} (h : whole ≠ 4503599627370496 * 2 ^ Int.toNat 1) (h2 : ¬ whole < 4503599627370496) (h3 : 2047 ≤ power + 1075) : g * 2 ^ 63 + 9218868437227405312 % 2 ^ 63 = g * 2 ^ 63 + asmf whole power := by
  rw [shl53] at h
  unfold asmf
  rw [if_neg h, if_neg (by omega), if_pos h3]
  rfl
theorem asm_e {g whole power : Int} (h : whole ≠ 4503599627370496 * 2 ^ Int.toNat 1) (h2 : ¬ whole < 4503599627370496) (h3 : ¬ 2047 ≤ power + 1075) : g * 2 ^ 63 + ((power + 1075) * 2 ^ 52 + (whole - 4503599627370496)) = g * 2 ^ 63 + asmf whole power := by
  rw [shl53] at h
  unfold asmf
  rw [if_neg h, if_neg (by omega), if_neg h3]
  omega
end

/-! M3a -/
section
/-! doubles as whole numbers of 2 ^ -1074 -/
def enc (w : Int) (e : Nat) : Int := if w < 2 ^ 52 then w else ((e : Int) + 1) * 2 ^ 52 + (w - 2 ^ 52)
theorem sz_enc {w : Int} {e : Nat} (h0 : 0 ≤ w) (h1 : w < 2 ^ 53) (h2 : 2 ^ 52 ≤ w ∨ e = 0) (h3 : e + 1 ≤ 2047) : sz (enc w e) = w * 2 ^ e := by
  unfold enc
  by_cases hw : w < 2 ^ 52
  · rw [if_pos hw]
    have he : e = 0 := by omega
    subst he
    unfold sz
    rw [if_pos (by omega)]
    rw [Int.pow_zero]
    omega
  · rw [if_neg hw]
    unfold sz
    have e1 : (((e : Int) + 1) * 2 ^ 52 + (w - 2 ^ 52)) / 2 ^ 52 % 2048 = e + 1 := by omega
    rw [e1, if_neg (by omega)]
    have e2 : ((e : Int) + 1 - 1).toNat = e := by omega
    rw [e2]
    have e3 : (((e : Int) + 1) * 2 ^ 52 + (w - 2 ^ 52)) % 2 ^ 52 + 2 ^ 52 = w := by omega
    rw [e3]
theorem enc_succ {w : Int} {e : Nat} (h0 : 0 ≤ w) (h1 : w < 2 ^ 53) (h2 : 2 ^ 52 ≤ w ∨ e = 0) (h3 : e + 2 ≤ 2047) : sz (enc w e + 1) = (w + 1) * 2 ^ e := by
  by_cases hw : w + 1 < 2 ^ 53
  · have e1 : enc w e + 1 = enc (w + 1) e := by unfold enc; split <;> split <;> omega
    rw [e1]
    exact sz_enc (by omega) hw (by omega) (by omega)
  · have e1 : enc w e + 1 = enc (2 ^ 52) (e + 1) := by unfold enc; split <;> split <;> omega
    rw [e1, sz_enc (by decide) (by decide) (by omega) (by omega)]
    have e2 : w + 1 = 2 ^ 52 * 2 := by omega
    rw [e2, p2add e 1]
    generalize ((2 : Int) ^ e) = x
    omega
theorem enc_pred {w : Int} {e : Nat} (h0 : 0 < w) (h1 : w < 2 ^ 53) (h3 : e + 1 ≤ 2047) (h4 : 2 ^ 52 < w ∨ e = 0) : sz (enc w e - 1) = (w - 1) * 2 ^ e := by
  have e1 : enc w e - 1 = enc (w - 1) e := by unfold enc; split <;> split <;> omega
  rw [e1]
  exact sz_enc (by omega) (by omega) (by omega) (by omega)
theorem enc_pred2 {e : Nat} (h3 : e + 2 ≤ 2047) : sz (enc (2 ^ 52) (e + 1) - 1) = (2 ^ 53 - 1) * 2 ^ e := by
  have e1 : enc (2 ^ 52) (e + 1) - 1 = enc (2 ^ 53 - 1) e := by unfold enc; split <;> split <;> omega
  rw [e1]
  exact sz_enc (by decide) (by decide) (by omega) (by omega)
theorem sz_inf : sz 9218868437227405312 = 2 ^ 52 * 2 ^ 2046 := by
  have e1 : (9218868437227405312 : Int) = enc (2 ^ 52) 2046 := by unfold enc; decide
  rw [e1]
  exact sz_enc (by decide) (by decide) (by decide) (by decide)

/-- f is the double next to top / bottom, the even one at a tie -/
def Near (f top bottom : Int) : Prop := 0 ≤ f ∧ f ≤ 9218868437227405312 ∧
  (f < 9218868437227405312 → 2 * top * 2 ^ 1074 ≤ (sz f + sz (f + 1)) * bottom ∧ (2 * top * 2 ^ 1074 = (sz f + sz (f + 1)) * bottom → f % 2 = 0)) ∧
  (0 < f → (sz f + sz (f - 1)) * bottom ≤ 2 * top * 2 ^ 1074 ∧ ((sz f + sz (f - 1)) * bottom = 2 * top * 2 ^ 1074 → f % 2 = 0))

/-- the same, of a fraction T / U scaled by V -/
theorem near_of {f top bottom T U V : Int} (hU : 0 < U) (hb : 0 < bottom) (e : top * 2 ^ 1074 * U = T * bottom * V) (h0 : 0 ≤ f) (h1 : f ≤ 9218868437227405312)
    (h2 : f < 9218868437227405312 → 2 * T * V ≤ (sz f + sz (f + 1)) * U ∧ (2 * T * V = (sz f + sz (f + 1)) * U → f % 2 = 0))
    (h3 : 0 < f → (sz f + sz (f - 1)) * U ≤ 2 * T * V ∧ ((sz f + sz (f - 1)) * U = 2 * T * V → f % 2 = 0)) : Near f top bottom := by
  unfold Near
  generalize ((2 : Int) ^ 1074) = c at *
  have up : ∀ A : Int, 2 * T * V ≤ A * U → 2 * top * c ≤ A * bottom := fun A h => by
    have h' := Int.mul_le_mul_of_nonneg_right h (Int.le_of_lt hb)
    refine le_of_mul_l hU ?_
    grind
  have dn : ∀ A : Int, A * U ≤ 2 * T * V → A * bottom ≤ 2 * top * c := fun A h => by
    have h' := Int.mul_le_mul_of_nonneg_right h (Int.le_of_lt hb)
    refine le_of_mul_l hU ?_
    grind
  have eq : ∀ A : Int, 2 * top * c = A * bottom → 2 * T * V = A * U := fun A h => by
    have h1 : bottom * (2 * T * V) = bottom * (A * U) := by grind
    exact Int.eq_of_mul_eq_mul_left (by omega) h1
  refine ⟨h0, h1, fun h => ?_, fun h => ?_⟩
  · obtain ⟨a, b⟩ := h2 h
    exact ⟨up _ a, fun q => b (eq _ q)⟩
  · obtain ⟨a, b⟩ := h3 h
    exact ⟨dn _ a, fun q => b (eq _ q.symm).symm⟩

/-- rounding T / U to the nearest whole, the even one at a tie -/
theorem rup_near {T U : Int} (hU : 0 < U) : (2 * rup (T / U) (T % U) U - 1) * U ≤ 2 * T ∧ 2 * T ≤ (2 * rup (T / U) (T % U) U + 1) * U ∧
    ((2 * rup (T / U) (T % U) U - 1) * U = 2 * T ∨ 2 * T = (2 * rup (T / U) (T % U) U + 1) * U → rup (T / U) (T % U) U % 2 = 0) ∧ T / U ≤ rup (T / U) (T % U) U ∧ rup (T / U) (T % U) U ≤ T / U + 1 := by
  have e := Int.mul_ediv_add_emod T U
  have h0 := Int.emod_nonneg T (by omega : U ≠ 0)
  have h1 := Int.emod_lt_of_pos T hU
  generalize T / U = q at *
  generalize T % U = r at *
  have e2 : ∀ k : Int, (2 * (q + k)) * U = 2 * (U * q) + 2 * (k * U) := fun k => by grind
  unfold rup
  split
  · rename_i h
    have := e2 1
    have e3 : (2 * (q + 1) - 1) * U = 2 * (U * q) + U := by grind
    have e4 : (2 * (q + 1) + 1) * U = 2 * (U * q) + 3 * U := by grind
    refine ⟨by omega, by omega, fun h' => ?_, by omega, by omega⟩
    omega
  · rename_i h
    have e3 : (2 * q - 1) * U = 2 * (U * q) - U := by grind
    have e4 : (2 * q + 1) * U = 2 * (U * q) + U := by grind
    refine ⟨by omega, by omega, fun h' => ?_, by omega, by omega⟩
    omega
end

/-! M3b -/
section
theorem pow_ge {a b : Nat} (h : a ≤ b) : (2 : Int) ^ a ≤ 2 ^ b := by
  obtain ⟨k, rfl⟩ := Nat.le.dest h
  rw [p2add]
  have h1 := p2pos a
  have h2 := p2pos k
  have := mul_le_mul_l (Int.le_of_lt h1) (show (1 : Int) ≤ 2 ^ k by omega)
  omega
theorem pow_split {a e : Nat} (h : a ≤ e) : (2 : Int) ^ e = 2 ^ a * 2 ^ (e - a) := by
  rw [← p2add]
  congr 1
  omega
theorem mid_up {w U T V : Int} (h : 2 * T ≤ (2 * w + 1) * U) (hV : 0 < V) : 2 * T * V ≤ (w * V + (w + 1) * V) * U := by
  have m := Int.mul_le_mul_of_nonneg_right h (Int.le_of_lt hV)
  grind
theorem mid_up_eq {w U T V : Int} (hV : 0 < V) (q : 2 * T * V = (w * V + (w + 1) * V) * U) : 2 * T = (2 * w + 1) * U := by
  apply Int.eq_of_mul_eq_mul_left (show V ≠ 0 by omega)
  grind
theorem mid_dn {w U T V : Int} (h : (2 * w - 1) * U ≤ 2 * T) (hV : 0 < V) : (w * V + (w - 1) * V) * U ≤ 2 * T * V := by
  have m := Int.mul_le_mul_of_nonneg_right h (Int.le_of_lt hV)
  grind
theorem mid_dn_eq {w U T V : Int} (hV : 0 < V) (q : (w * V + (w - 1) * V) * U = 2 * T * V) : (2 * w - 1) * U = 2 * T := by
  apply Int.eq_of_mul_eq_mul_left (show V ≠ 0 by omega)
  grind
theorem mid_half {U T V : Int} (hU : 0 < U) (hV : 0 < V) (h : 2 ^ 52 * U ≤ T) : (2 ^ 52 * (V * 2 ^ 1) + (2 ^ 53 - 1) * V) * U < 2 * T * (V * 2 ^ 1) := by
  have m3 := Int.mul_le_mul_of_nonneg_right h (Int.le_of_lt hV)
  have m4 : 0 < U * V := Int.mul_pos hU hV
  have g1 : (2 ^ 52 * (V * 2 ^ 1) + (2 ^ 53 - 1) * V) * U = (2 ^ 54 - 1) * (U * V) := by grind
  have g2 : 2 * T * (V * 2 ^ 1) = 4 * (T * V) := by grind
  have g3 : 2 ^ 52 * U * V = 2 ^ 52 * (U * V) := by grind
  rw [g1, g2]
  rw [g3] at m3
  generalize U * V = x at *
  generalize T * V = y at *
  omega
theorem enc_mid {T U w : Int} {e : Nat} (hU : 0 < U) (h1 : (2 * w - 1) * U ≤ 2 * T) (h2 : 2 * T ≤ (2 * w + 1) * U) (h3 : (2 * w - 1) * U = 2 * T ∨ 2 * T = (2 * w + 1) * U → w % 2 = 0)
    (hw0 : 0 ≤ w) (hw1 : w < 2 ^ 53) (hn : 2 ^ 52 * U ≤ T ∨ e = 0) (hlo : 2 ^ 52 ≤ w ∨ e = 0) (he : e + 2 ≤ 2047) :
    2 * T * 2 ^ e ≤ (sz (enc w e) + sz (enc w e + 1)) * U ∧ (2 * T * 2 ^ e = (sz (enc w e) + sz (enc w e + 1)) * U → w % 2 = 0) ∧
    (0 < enc w e → (sz (enc w e) + sz (enc w e - 1)) * U ≤ 2 * T * 2 ^ e ∧ ((sz (enc w e) + sz (enc w e - 1)) * U = 2 * T * 2 ^ e → w % 2 = 0)) := by
  have hV := p2pos e
  rw [sz_enc hw0 hw1 hlo (by omega), enc_succ hw0 hw1 hlo he]
  refine ⟨mid_up h2 hV, fun q => h3 (.inr (mid_up_eq hV q)), fun hp => ?_⟩
  by_cases hw : 2 ^ 52 < w ∨ e = 0
  · have hw2 : 0 < w := by unfold enc at hp; split at hp <;> omega
    rw [enc_pred hw2 hw1 (by omega) hw]
    exact ⟨mid_dn h1 hV, fun q => h3 (.inl (mid_dn_eq hV q))⟩
  · obtain ⟨e', e1⟩ : ∃ e', e = e' + 1 := ⟨e - 1, by omega⟩
    have hw2 : w = 2 ^ 52 := by omega
    have hT : 2 ^ 52 * U ≤ T := by omega
    have hs : sz (enc w e - 1) = (2 ^ 53 - 1) * 2 ^ e' := by rw [hw2, e1]; exact enc_pred2 (by omega)
    have hp2 : (2 : Int) ^ e = 2 ^ e' * 2 ^ 1 := by rw [e1]; exact p2add e' 1
    rw [hs, hp2, hw2]
    have m := mid_half hU (p2pos e') hT
    exact ⟨Int.le_of_lt m, fun q => absurd q (Int.ne_of_lt m)⟩
end

/-! M3c -/
section
theorem enc_even {w : Int} {e : Nat} : enc w e % 2 = w % 2 := by unfold enc; split <;> omega
theorem sz_inf1 : sz (9218868437227405312 - 1) = (2 ^ 53 - 1) * 2 ^ 2045 := by
  have e1 : (9218868437227405312 : Int) = enc (2 ^ 52) (2045 + 1) := by unfold enc; decide
  rw [e1]
  exact enc_pred2 (by decide)
theorem inf_low0 {T U V W : Int} (hV : 0 < V) (h : (2 ^ 54 - 1) * U ≤ 2 * T * W) : (2 ^ 52 * (V * 2 ^ 1) + (2 ^ 53 - 1) * V) * U ≤ 2 * T * (V * W) := by
  have m := Int.mul_le_mul_of_nonneg_right h (Int.le_of_lt hV)
  grind
theorem inf_low {T U : Int} {e : Nat} (h : (2 ^ 54 - 1) * U ≤ 2 * T * 2 ^ (e - 2045)) (he : 2045 ≤ e) : (sz 9218868437227405312 + sz (9218868437227405312 - 1)) * U ≤ 2 * T * 2 ^ e := by
  rw [sz_inf, sz_inf1]
  have e1 : (2 : Int) ^ 2046 = 2 ^ 2045 * 2 ^ 1 := p2add 2045 1
  have e2 : (2 : Int) ^ e = 2 ^ 2045 * 2 ^ (e - 2045) := pow_split he
  rw [e1, e2]
  have hV := p2pos 2045
  generalize (2 : Int) ^ 2045 = V at *
  exact inf_low0 hV h
theorem top_up {T U V : Int} (hU : 0 < U) (hV : 0 < V) (h : 2 * T ≤ (2 * 2 ^ 53 + 1) * U) : 2 * T * V ≤ (2 ^ 52 * (V * 2 ^ 1) + (2 ^ 52 + 1) * (V * 2 ^ 1)) * U := by
  have m := Int.mul_le_mul_of_nonneg_right h (Int.le_of_lt hV)
  have m2 : 0 < U * V := Int.mul_pos hU hV
  have g1 : (2 ^ 52 * (V * 2 ^ 1) + (2 ^ 52 + 1) * (V * 2 ^ 1)) * U = (2 ^ 54 + 2) * (U * V) := by grind
  have g2 : (2 * 2 ^ 53 + 1) * U * V = (2 ^ 54 + 1) * (U * V) := by grind
  rw [g1]
  rw [g2] at m
  generalize U * V = x at *
  generalize 2 * T * V = y at *
  omega
theorem top_dn {T U V : Int} (hV : 0 < V) (h : (2 * 2 ^ 53 - 1) * U ≤ 2 * T) : (2 ^ 52 * (V * 2 ^ 1) + (2 ^ 53 - 1) * V) * U ≤ 2 * T * V := by
  have m := Int.mul_le_mul_of_nonneg_right h (Int.le_of_lt hV)
  grind
theorem asm_inf1 {T U W : Int} (hU : 0 < U) (h : (2 * 2 ^ 53 - 1) * U ≤ 2 * T) (hW : 1 ≤ W) : (2 ^ 54 - 1) * U ≤ 2 * T * W := by
  have h0 : 0 ≤ (2 * 2 ^ 53 - 1) * U := Int.mul_nonneg (by decide) (by omega)
  have m := mul_le_mul_l (show 0 ≤ 2 * T by omega) hW
  have g : (2 * 2 ^ 53 - 1) * U = (2 ^ 54 - 1) * U := by congr 1
  omega
theorem asm_inf2 {T U W : Int} (hU : 0 < U) (h : 2 ^ 52 * U ≤ T) (hW : 2 ≤ W) : (2 ^ 54 - 1) * U ≤ 2 * T * W := by
  have h0 : 0 ≤ 2 ^ 52 * U := Int.mul_nonneg (by decide) (by omega)
  have m := mul_le_mul_l (show 0 ≤ 2 * T by omega) hW
  omega
theorem asm_near {T U w : Int} {e : Nat} (hU : 0 < U) (h1 : (2 * w - 1) * U ≤ 2 * T) (h2 : 2 * T ≤ (2 * w + 1) * U) (h3 : (2 * w - 1) * U = 2 * T ∨ 2 * T = (2 * w + 1) * U → w % 2 = 0)
    (hw0 : 0 ≤ w) (hw1 : w ≤ 2 ^ 53) (hn : 2 ^ 52 * U ≤ T ∨ e = 0) (hlo : 2 ^ 52 ≤ w ∨ e = 0) {f : Int} (hf : f = asmf w ((e : Int) - 1074)) :
    0 ≤ f ∧ f ≤ 9218868437227405312 ∧ (f < 9218868437227405312 → 2 * T * 2 ^ e ≤ (sz f + sz (f + 1)) * U ∧ (2 * T * 2 ^ e = (sz f + sz (f + 1)) * U → f % 2 = 0)) ∧
    (0 < f → (sz f + sz (f - 1)) * U ≤ 2 * T * 2 ^ e ∧ ((sz f + sz (f - 1)) * U = 2 * T * 2 ^ e → f % 2 = 0)) := by
  by_cases hw : w = 2 ^ 53
  · have hf2 : f = if 2047 ≤ (e : Int) + 2 then 9218868437227405312 else ((e : Int) + 2) * 2 ^ 52 := by
      rw [hf]; unfold asmf; rw [if_pos hw]
      split <;> split <;> omega
    rw [hw] at h1 h2
    by_cases he : 2047 ≤ (e : Int) + 2
    · rw [if_pos he] at hf2
      rw [hf2]
      refine ⟨by decide, by decide, fun q => absurd q (by decide), fun _ => ⟨?_, fun _ => by decide⟩⟩
      refine inf_low ?_ (by omega)
      have hp2 := pow_ge (show 0 ≤ e - 2045 by omega)
      rw [Int.pow_zero] at hp2
      exact asm_inf1 hU h1 hp2
    · rw [if_neg he] at hf2
      have hf3 : f = enc (2 ^ 52) (e + 1) := by rw [hf2]; unfold enc; rw [if_neg (by decide)]; omega
      have hev : f % 2 = 0 := by omega
      have s0 : sz f = 2 ^ 52 * (2 ^ e * 2 ^ 1) := by rw [hf3, sz_enc (by decide) (by decide) (by omega) (by omega), p2add e 1]
      have s1 : sz (f + 1) = (2 ^ 52 + 1) * (2 ^ e * 2 ^ 1) := by rw [hf3, enc_succ (by decide) (by decide) (by omega) (by omega), p2add e 1]
      have s2 : sz (f - 1) = (2 ^ 53 - 1) * 2 ^ e := by rw [hf3, enc_pred2 (by omega)]
      rw [s0, s1, s2]
      exact ⟨by omega, by omega, fun _ => ⟨top_up hU (p2pos e) h2, fun _ => hev⟩, fun _ => ⟨top_dn (p2pos e) h1, fun _ => hev⟩⟩
  · by_cases hi : 2047 ≤ (e : Int) + 1
    · have hw2 : ¬ w < 2 ^ 52 := by omega
      have hf2 : f = 9218868437227405312 := by
        rw [hf]; unfold asmf; rw [if_neg hw, if_neg hw2, if_pos (by omega)]
      rw [hf2]
      refine ⟨by decide, by decide, fun q => absurd q (by decide), fun _ => ⟨?_, fun _ => by decide⟩⟩
      refine inf_low ?_ (by omega)
      have hp2 := pow_ge (show 1 ≤ e - 2045 by omega)
      exact asm_inf2 hU (by omega) hp2
    · have hf2 : f = enc w e := by
        rw [hf]; unfold asmf enc; rw [if_neg hw]
        split
        · rfl
        · rw [if_neg (by omega)]; omega
      obtain ⟨a, b, c⟩ := enc_mid hU h1 h2 h3 hw0 (by omega) hn hlo (by omega)
      rw [← hf2] at a b c
      have hev : f % 2 = w % 2 := by rw [hf2]; exact enc_even
      refine ⟨?_, ?_, fun _ => ⟨a, fun q => by rw [hev]; exact b q⟩, fun hp => ⟨(c hp).1, fun q => by rw [hev]; exact (c hp).2 q⟩⟩
      · rw [hf2]; unfold enc; split <;> omega
      · rw [hf2]; unfold enc; split <;> omega
end

/-! M3d -/
section
theorem pow_split3 {a b c : Nat} (h : c = a + b) : (2 : Int) ^ c = 2 ^ a * 2 ^ b := by rw [h, p2add]
theorem q_relK {top bottom p : Int} (K : Nat) (hp : -(K : Int) ≤ p) : top * 2 ^ K * qb bottom p = qt top p * bottom * 2 ^ (p + K).toNat := by
  unfold qt qb
  split
  · rename_i h
    rw [pow_split3 (show (p + K).toNat = p.toNat + K by omega)]
    grind
  · rename_i h
    rw [pow_split3 (show K = (-p).toNat + (p + K).toNat by omega)]
    have e : (p + ((-p).toNat + (p + K).toNat : Nat)).toNat = (p + K).toNat := by omega
    grind
theorem q_rel {top bottom p : Int} (hp : -1074 ≤ p) : top * 2 ^ 1074 * qb bottom p = qt top p * bottom * 2 ^ (p + 1074).toNat := q_relK 1074 hp
theorem qt_lt {top bottom p : Int} {wt b1 k : Nat} (h1 : top < 2 ^ wt) (h2 : 2 ^ b1 ≤ bottom) (h : (wt : Int) ≤ b1 + k + p) : qt top p < 2 ^ k * qb bottom p := by
  have hk := p2pos k
  unfold qt qb
  split
  · have e := pow_ge (show wt ≤ k + (b1 + p.toNat) by omega)
    rw [p2add, p2add] at e
    have hp := p2pos p.toNat
    have m := mul_le_mul_l (Int.le_of_lt hk) (Int.mul_le_mul_of_nonneg_right h2 (Int.le_of_lt hp))
    omega
  · have hn := p2pos (-p).toNat
    have m1 := Int.mul_lt_mul_of_pos_right h1 hn
    have e := pow_ge (show wt + (-p).toNat ≤ k + b1 by omega)
    rw [p2add, p2add] at e
    have m := mul_le_mul_l (Int.le_of_lt hk) h2
    omega
theorem qt_ge {top bottom p : Int} {w1 wb k : Nat} (h1 : 2 ^ w1 ≤ top) (h2 : bottom < 2 ^ wb) (h : (wb : Int) + k + p ≤ w1) : 2 ^ k * qb bottom p ≤ qt top p := by
  have hk := p2pos k
  unfold qt qb
  split
  · have e := pow_ge (show k + (wb + p.toNat) ≤ w1 by omega)
    rw [p2add, p2add] at e
    have hp := p2pos p.toNat
    have m := mul_le_mul_l (Int.le_of_lt hk) (Int.mul_le_mul_of_nonneg_right (Int.le_of_lt h2) (Int.le_of_lt hp))
    omega
  · have hn := p2pos (-p).toNat
    have m1 := Int.mul_le_mul_of_nonneg_right h1 (Int.le_of_lt hn)
    have e := pow_ge (show k + wb ≤ w1 + (-p).toNat by omega)
    rw [p2add, p2add] at e
    have m := mul_le_mul_l (Int.le_of_lt hk) (Int.le_of_lt h2)
    omega
theorem q_next {top bottom p : Int} : (qt top (p + 1) = qt top p ∧ qb bottom (p + 1) = qb bottom p * 2) ∨ (qt top p = qt top (p + 1) * 2 ∧ qb bottom (p + 1) = qb bottom p) := by
  by_cases h : 0 ≤ p
  · left
    unfold qt qb
    rw [if_pos h, if_pos (by omega), if_pos h, if_pos (by omega), pow_split3 (show (p + 1).toNat = p.toNat + 1 by omega), ← Int.mul_assoc]
    exact ⟨rfl, rfl⟩
  · right
    unfold qt qb
    rw [if_neg h, if_neg h]
    by_cases h1 : 0 ≤ p + 1
    · rw [if_pos h1, if_pos h1]
      have e1 : (-p).toNat = 1 := by omega
      have e2 : (p + 1).toNat = 0 := by omega
      rw [e1, e2]
      exact ⟨rfl, by rw [Int.pow_zero, Int.mul_one]⟩
    · rw [if_neg h1, if_neg h1, pow_split3 (show (-p).toNat = (-(p + 1)).toNat + 1 by omega), ← Int.mul_assoc]
      exact ⟨rfl, rfl⟩
theorem qt_nonneg {top p : Int} (h : 0 ≤ top) : 0 ≤ qt top p := by
  unfold qt
  split
  · exact h
  · exact Int.mul_nonneg h (Int.le_of_lt (p2pos _))
theorem ediv_lt {T U : Int} {K : Int} (hU : 0 < U) (h : T < K * U) : T / U < K := Int.ediv_lt_of_lt_mul hU h
theorem ediv_ge {T U : Int} {K : Int} (hU : 0 < U) (h : K * U ≤ T) : K ≤ T / U := Int.le_ediv_of_mul_le hU h
theorem ge_of_ediv {T U : Int} {K : Int} (hU : 0 < U) (h : K ≤ T / U) : K * U ≤ T := by
  have h1 := (ediv_bounds T hU).1
  have h2 := Int.mul_le_mul_of_nonneg_right h (Int.le_of_lt hU)
  rw [Int.mul_comm (T / U)] at h2
  omega
theorem lt_of_ediv {T U : Int} {K : Int} (hU : 0 < U) (h : T / U < K) : T < K * U := by
  have h1 := (ediv_bounds T hU).2
  have h2 := Int.mul_le_mul_of_nonneg_right (show T / U + 1 ≤ K by omega) (Int.le_of_lt hU)
  rw [Int.mul_comm (T / U + 1), Int.mul_add] at h2
  omega
/-- the first try: below 2 ^ 54; at least 2 ^ 52 where the power is not the least one; below 2 ^ 53 where it is -/
theorem rpw0_ge (top bottom : Int) : -1074 ≤ rpw0 top bottom := by unfold rpw0; split <;> omega
theorem first_try {top bottom : Int} (h0 : 0 < top) (hb : 0 < bottom) :
    qt top (rpw0 top bottom) < 2 ^ 54 * qb bottom (rpw0 top bottom) ∧ (2 ^ 52 * qb bottom (rpw0 top bottom) ≤ qt top (rpw0 top bottom) ∨ (rpw0 top bottom = -1074 ∧ qt top (rpw0 top bottom) < 2 ^ 53 * qb bottom (rpw0 top bottom))) := by
  obtain ⟨t, et, t1, t2⟩ := bits_lo h0
  obtain ⟨b, eb, b1, b2⟩ := bits_lo hb
  have e : rpw0 top bottom = max ((t : Int) - b - 53) (-1074) := by unfold rpw0; rw [et, eb]; split <;> omega
  refine ⟨qt_lt t2 b1 (by rw [e]; omega), ?_⟩
  by_cases hc : (t : Int) - b - 53 < -1074
  · exact .inr ⟨by omega, qt_lt t2 b1 (by rw [e]; omega)⟩
  · exact .inl (qt_ge t1 b2 (by rw [e]; omega))
/-- the second one -/
theorem last_try {top bottom : Int} (h0 : 0 < top) (hb : 0 < bottom) : -1074 ≤ rpw top bottom ∧ qt top (rpw top bottom) < 2 ^ 53 * qb bottom (rpw top bottom) ∧ (2 ^ 52 * qb bottom (rpw top bottom) ≤ qt top (rpw top bottom) ∨ rpw top bottom = -1074) := by
  obtain ⟨f1, f2⟩ := first_try h0 hb
  have hU := qb_pos (power := rpw0 top bottom) hb
  have hg := rpw0_ge top bottom
  by_cases h : 2 ^ 53 ≤ qt top (rpw0 top bottom) / qb bottom (rpw0 top bottom)
  · have e : rpw top bottom = rpw0 top bottom + 1 := by unfold rpw; rw [if_pos h]
    have hge := ge_of_ediv hU h
    rw [e]
    rcases q_next (top := top) (bottom := bottom) (p := rpw0 top bottom) with ⟨q1, q2⟩ | ⟨q1, q2⟩
    · rw [q1, q2]
      exact ⟨by omega, by omega, .inl (by omega)⟩
    · rw [q2]
      exact ⟨by omega, by omega, .inl (by omega)⟩
  · have e : rpw top bottom = rpw0 top bottom := by unfold rpw; rw [if_neg h]
    have hlt := lt_of_ediv hU (show qt top (rpw0 top bottom) / qb bottom (rpw0 top bottom) < 2 ^ 53 by omega)
    rw [e]
    exact ⟨hg, hlt, by omega⟩
theorem rwh_facts {top bottom : Int} (h0 : 0 < top) (hb : 0 < bottom) : 0 ≤ qt top (rpw top bottom) / qb bottom (rpw top bottom) ∧ qt top (rpw top bottom) / qb bottom (rpw top bottom) < 2 ^ 53 := by
  obtain ⟨_, l1, _⟩ := last_try h0 hb
  have hU := qb_pos (power := rpw top bottom) hb
  exact ⟨Int.ediv_nonneg (qt_nonneg (by omega)) (by omega), ediv_lt hU l1⟩
theorem rrf_near {top bottom : Int} (h0 : 0 < top) (hb : 0 < bottom) : Near (rrf top bottom) top bottom := by
  obtain ⟨l0, l1, l2⟩ := last_try h0 hb
  obtain ⟨w0, w1⟩ := rwh_facts h0 hb
  have hU := qb_pos (power := rpw top bottom) hb
  obtain ⟨n1, n2, n3, n4, n5⟩ := rup_near (T := qt top (rpw top bottom)) hU
  have hrel := q_rel (top := top) (bottom := bottom) l0
  have hf : rrf top bottom = asmf (rup (qt top (rpw top bottom) / qb bottom (rpw top bottom)) (qt top (rpw top bottom) % qb bottom (rpw top bottom)) (qb bottom (rpw top bottom))) (((rpw top bottom + 1074).toNat : Int) - 1074) := by
    unfold rrf rwh
    rw [if_neg (by omega)]
    congr 1
    omega
  have hlo : 2 ^ 52 ≤ qt top (rpw top bottom) / qb bottom (rpw top bottom) ∨ (rpw top bottom + 1074).toNat = 0 := by
    rcases l2 with h | h
    · exact .inl (ediv_ge hU h)
    · right; omega
  obtain ⟨a, b, c, d⟩ := asm_near hU n1 n2 n3 (by omega) (by omega) (by omega) (by omega) hf
  exact near_of hU hb hrel a b c d
theorem rpw_hi {top bottom : Int} (h : 4503599627370496 * 2 ^ Int.toNat 1 ≤ qt top (rpw0 top bottom) / qb bottom (rpw0 top bottom)) : rpw top bottom = rpw0 top bottom + 1 := by
  rw [shl53] at h
  unfold rpw
  rw [if_pos h]
theorem rpw_lo {top bottom : Int} (h : ¬ 4503599627370496 * 2 ^ Int.toNat 1 ≤ qt top (rpw0 top bottom) / qb bottom (rpw0 top bottom)) : rpw top bottom = rpw0 top bottom := by
  rw [shl53] at h
  unfold rpw
  rw [if_neg h]
theorem rr_b {top bottom p : Int} (hp : rpw top bottom = p) (h0 : 0 ≤ top) (hn : top ≠ 0) (hb : 0 < bottom) : 0 ≤ qt top p / qb bottom p ∧ qt top p / qb bottom p + 1 ≤ 2 ^ 53 ∧ -1074 ≤ p ∧ 0 ≤ qt top p / qb bottom p + 1 ∧ qt top p / qb bottom p ≤ 2 ^ 53 := by
  subst hp
  have h1 := rwh_facts (by omega : 0 < top) hb
  have h2 := (last_try (by omega : 0 < top) hb).1
  omega
theorem rr_up {g top bottom p : Int} (hp : rpw top bottom = p) (hn : top ≠ 0) (h : qb bottom p < 2 * (qt top p % qb bottom p)) : g * 2 ^ 63 + asmf (qt top p / qb bottom p + 1) p = g * 2 ^ 63 + rrf top bottom := by
  subst hp
  unfold rrf rwh rup
  rw [if_neg hn, if_pos (.inl h)]
theorem rr_up2 {g top bottom p : Int} (hp : rpw top bottom = p) (hn : top ≠ 0) (h : 2 * (qt top p % qb bottom p) = qb bottom p) (h2 : (qt top p / qb bottom p).fmod 2 = 1) : g * 2 ^ 63 + asmf (qt top p / qb bottom p + 1) p = g * 2 ^ 63 + rrf top bottom := by
  subst hp
  have e : (qt top (rpw top bottom) / qb bottom (rpw top bottom)).fmod 2 = (qt top (rpw top bottom) / qb bottom (rpw top bottom)) % 2 := mdr _ 1
  rw [e] at h2
  unfold rrf rwh rup
  rw [if_neg hn, if_pos (.inr ⟨h, h2⟩)]
theorem rr_no {g top bottom p : Int} (hp : rpw top bottom = p) (hn : top ≠ 0) (h : ¬ qb bottom p < 2 * (qt top p % qb bottom p)) (h2 : 2 * (qt top p % qb bottom p) ≠ qb bottom p) : g * 2 ^ 63 + asmf (qt top p / qb bottom p) p = g * 2 ^ 63 + rrf top bottom := by
  subst hp
  unfold rrf rwh rup
  rw [if_neg hn, if_neg (fun q => q.elim h fun q => h2 q.1)]
theorem rr_no2 {g top bottom p : Int} (hp : rpw top bottom = p) (hn : top ≠ 0) (h : ¬ qb bottom p < 2 * (qt top p % qb bottom p)) (h2 : (qt top p / qb bottom p).fmod 2 ≠ 1) : g * 2 ^ 63 + asmf (qt top p / qb bottom p) p = g * 2 ^ 63 + rrf top bottom := by
  subst hp
  have e : (qt top (rpw top bottom) / qb bottom (rpw top bottom)).fmod 2 = (qt top (rpw top bottom) / qb bottom (rpw top bottom)) % 2 := mdr _ 1
  rw [e] at h2
  unfold rrf rwh rup
  rw [if_neg hn, if_neg (fun q => q.elim h fun q => h2 q.2)]
theorem rr_0 {g top bottom : Int} (h : top = 0) : g * 2 ^ Int.toNat 63 = g * 2 ^ 63 + rrf top bottom := by
  unfold rrf
  rw [if_pos h, Int.add_zero]
  rfl
end

/-! M4 -/
section
theorem shl_nonneg {a : Int} {k : Nat} (h : 0 ≤ a) : 0 ≤ a * 2 ^ k := Int.mul_nonneg h (Int.le_of_lt (p2pos k))
theorem shl_pos {a : Int} {k : Nat} (h : 0 < a) : 0 < a * 2 ^ k := Int.mul_pos h (p2pos k)
theorem shl_bits {a k : Int} (h : intBits a ≤ 1700) (hk : k ≤ 2300) : intBits (a * 2 ^ k.toNat) ≤ 4000 := bits_shl h hk
theorem shl_bits2 {a k : Int} (h : intBits a ≤ 2300) (hk : k ≤ 1700) : intBits (a * 2 ^ k.toNat) ≤ 4000 := bits_shl h hk
theorem pm_nonneg (n : Int) : 0 ≤ pm n := by unfold pm; split <;> omega
theorem pm_lt (n : Int) : pm n < 2 ^ 53 := by unfold pm; split <;> omega
theorem pm_bits (n : Int) : intBits (pm n) ≤ 100 := Nat.le_trans (PySem.intBits_le_iff (m := 53).mpr (by have := pm_nonneg n; have := pm_lt n; omega)) (by decide)
theorem pm_pos {n : Int} (h : n % 2 ^ 63 ≠ 0) : 0 < pm n := by unfold pm; split <;> omega
theorem pw_ge (n : Int) : -1074 ≤ pw n := by unfold pw; split <;> omega
theorem pw_le (n : Int) : pw n ≤ 972 := by unfold pw; split <;> omega
theorem rs_0 {g m p : Int} (h : m = 0) : g * 2 ^ Int.toNat 63 = g * 2 ^ 63 + rsf m p := by
  unfold rsf
  rw [if_pos (.inl h), Int.add_zero]
  rfl
theorem rs_1 {g m p : Int} (h : (intBits m : Int) + p ≤ -1074 - 1) : g * 2 ^ Int.toNat 63 = g * 2 ^ 63 + rsf m p := by
  unfold rsf
  rw [if_pos (.inr (by omega)), Int.add_zero]
  rfl
theorem rs_2 {g m p : Int} (hm : m ≠ 0) (_h : ¬ (intBits m : Int) + p ≤ -1074 - 1) (h2 : 1024 < (intBits m : Int) + p) : g * 2 ^ 63 + 9218868437227405312 % 2 ^ 63 = g * 2 ^ 63 + rsf m p := by
  unfold rsf
  rw [if_neg (by omega), if_pos h2]
  rfl
theorem rs_3 {g m p : Int} (hm : m ≠ 0) (h : ¬ (intBits m : Int) + p ≤ -1074 - 1) (h2 : ¬ 1024 < (intBits m : Int) + p) (hp : 0 ≤ p) : g * 2 ^ 63 + rrf (m * 2 ^ p.toNat) 1 = g * 2 ^ 63 + rsf m p := by
  unfold rsf
  rw [if_neg (by omega), if_neg h2, if_pos hp]
theorem rs_4 {g m p : Int} (hm : m ≠ 0) (h : ¬ (intBits m : Int) + p ≤ -1074 - 1) (h2 : ¬ 1024 < (intBits m : Int) + p) (hp : ¬ 0 ≤ p) : g * 2 ^ 63 + rrf m (1 * 2 ^ (-p).toNat) = g * 2 ^ 63 + rsf m p := by
  unfold rsf
  rw [if_neg (by omega), if_neg h2, if_neg hp]

/-! div -/
def sgx (x y : Int) : Int := Builtin.bitXor (x / 2 ^ 63) (y / 2 ^ 63)
theorem sgx_v {x y : Int} (hx0 : 0 ≤ x) (hx1 : x < 2 ^ 64) (hy0 : 0 ≤ y) (hy1 : y < 2 ^ 64) : sgx x y = if x / 2 ^ 63 = y / 2 ^ 63 then 0 else 1 := by
  unfold sgx
  rcases (show x / 2 ^ 63 = 0 ∨ x / 2 ^ 63 = 1 by omega) with h | h <;> rcases (show y / 2 ^ 63 = 0 ∨ y / 2 ^ 63 = 1 by omega) with h' | h' <;> rw [h, h'] <;> decide
theorem sgx01 {x y : Int} (hx0 : 0 ≤ x) (hx1 : x < 2 ^ 64) (hy0 : 0 ≤ y) (hy1 : y < 2 ^ 64) : Builtin.bitXor (x.fdiv (2 ^ Int.toNat 63)) (y.fdiv (2 ^ Int.toNat 63)) = 0 ∨ Builtin.bitXor (x.fdiv (2 ^ Int.toNat 63)) (y.fdiv (2 ^ Int.toNat 63)) = 1 := by
  have e := sgx_v hx0 hx1 hy0 hy1
  unfold sgx at e
  have e1 : x.fdiv (2 ^ Int.toNat 63) = x / 2 ^ 63 := shr x 63
  have e2 : y.fdiv (2 ^ Int.toNat 63) = y / 2 ^ 63 := shr y 63
  rw [e1, e2, e]
  split
  · exact .inl rfl
  · exact .inr rfl
def pmin (x y : Int) : Int := if pw y < pw x then pw y else pw x
def tp (x y : Int) : Int := pm x * 2 ^ (pw x - pmin x y).toNat
def tq (x y : Int) : Int := pm y * 2 ^ (pw y - pmin x y).toNat
def dv (x y : Int) : Int :=
  if 9218868437227405312 < x % 2 ^ 63 ∨ 9218868437227405312 < y % 2 ^ 63 then 9221120237041090560
  else if x % 2 ^ 63 = 9218868437227405312 then (if y % 2 ^ 63 = 9218868437227405312 then 9221120237041090560 else sgx x y * 2 ^ 63 + 9218868437227405312)
  else if y % 2 ^ 63 = 9218868437227405312 then sgx x y * 2 ^ 63
  else if y % 2 ^ 63 = 0 then (if x % 2 ^ 63 = 0 then 9221120237041090560 else sgx x y * 2 ^ 63 + 9218868437227405312)
  else sgx x y * 2 ^ 63 + rrf (tp x y) (tq x y)
theorem dv_nx {x y : Int} (h : 9218868437227405312 < x % 2 ^ 63) : (9221120237041090560 : Int) = dv x y := by unfold dv; rw [if_pos (.inl h)]
theorem dv_ny {x y : Int} (h : 9218868437227405312 < y % 2 ^ 63) : (9221120237041090560 : Int) = dv x y := by unfold dv; rw [if_pos (.inr h)]
theorem dv_ii {x y : Int} (h1 : ¬ 9218868437227405312 < x % 2 ^ 63) (h2 : ¬ 9218868437227405312 < y % 2 ^ 63) (h3 : x % 2 ^ 63 = 9218868437227405312) (h4 : y % 2 ^ 63 = 9218868437227405312) : (9221120237041090560 : Int) = dv x y := by
  unfold dv; rw [if_neg (fun q => q.elim h1 h2), if_pos h3, if_pos h4]
theorem dv_if {x y : Int} (h1 : ¬ 9218868437227405312 < x % 2 ^ 63) (h2 : ¬ 9218868437227405312 < y % 2 ^ 63) (h3 : x % 2 ^ 63 = 9218868437227405312) (h4 : ¬ y % 2 ^ 63 = 9218868437227405312) :
    Builtin.bitXor (x.fdiv (2 ^ Int.toNat 63)) (y.fdiv (2 ^ Int.toNat 63)) * 2 ^ 63 + 9218868437227405312 % 2 ^ 63 = dv x y := by
  unfold dv; rw [if_neg (fun q => q.elim h1 h2), if_pos h3, if_neg h4, shr, shr]; rfl
theorem dv_fi {x y : Int} (h1 : ¬ 9218868437227405312 < x % 2 ^ 63) (h2 : ¬ 9218868437227405312 < y % 2 ^ 63) (h3 : ¬ x % 2 ^ 63 = 9218868437227405312) (h4 : y % 2 ^ 63 = 9218868437227405312) :
    Builtin.bitXor (x.fdiv (2 ^ Int.toNat 63)) (y.fdiv (2 ^ Int.toNat 63)) * 2 ^ 63 + 0 % 2 ^ 63 = dv x y := by
  unfold dv; rw [if_neg (fun q => q.elim h1 h2), if_neg h3, if_pos h4, shr, shr]; exact Int.add_zero _
theorem dv_00 {x y : Int} (h1 : ¬ 9218868437227405312 < x % 2 ^ 63) (h2 : ¬ 9218868437227405312 < y % 2 ^ 63) (h3 : ¬ x % 2 ^ 63 = 9218868437227405312) (h4 : ¬ y % 2 ^ 63 = 9218868437227405312) (h5 : y % 2 ^ 63 = 0) (h6 : x % 2 ^ 63 = 0) : (9221120237041090560 : Int) = dv x y := by
  unfold dv; rw [if_neg (fun q => q.elim h1 h2), if_neg h3, if_neg h4, if_pos h5, if_pos h6]
theorem dv_f0 {x y : Int} (h1 : ¬ 9218868437227405312 < x % 2 ^ 63) (h2 : ¬ 9218868437227405312 < y % 2 ^ 63) (h3 : ¬ x % 2 ^ 63 = 9218868437227405312) (h4 : ¬ y % 2 ^ 63 = 9218868437227405312) (h5 : y % 2 ^ 63 = 0) (h6 : ¬ x % 2 ^ 63 = 0) :
    Builtin.bitXor (x.fdiv (2 ^ Int.toNat 63)) (y.fdiv (2 ^ Int.toNat 63)) * 2 ^ 63 + 9218868437227405312 % 2 ^ 63 = dv x y := by
  unfold dv; rw [if_neg (fun q => q.elim h1 h2), if_neg h3, if_neg h4, if_pos h5, if_neg h6, shr, shr]; rfl
theorem dv_ff0 {x y : Int} (h1 : ¬ 9218868437227405312 < x % 2 ^ 63) (h2 : ¬ 9218868437227405312 < y % 2 ^ 63) (h3 : ¬ x % 2 ^ 63 = 9218868437227405312) (h4 : ¬ y % 2 ^ 63 = 9218868437227405312) (h5 : ¬ y % 2 ^ 63 = 0) : dv x y = sgx x y * 2 ^ 63 + rrf (tp x y) (tq x y) := by
  unfold dv; rw [if_neg (fun q => q.elim h1 h2), if_neg h3, if_neg h4, if_neg h5]
theorem dv_ff {x y : Int} (h1 : ¬ 9218868437227405312 < x % 2 ^ 63) (h2 : ¬ 9218868437227405312 < y % 2 ^ 63) (h3 : ¬ x % 2 ^ 63 = 9218868437227405312) (h4 : ¬ y % 2 ^ 63 = 9218868437227405312) (h5 : ¬ y % 2 ^ 63 = 0) :
    Builtin.bitXor (x.fdiv (2 ^ Int.toNat 63)) (y.fdiv (2 ^ Int.toNat 63)) * 2 ^ 63 + rrf (pm x * 2 ^ (pw x - if pw y < pw x then pw y else pw x).toNat) (pm y * 2 ^ (pw y - if pw y < pw x then pw y else pw x).toNat) = dv x y := by
  rw [dv_ff0 h1 h2 h3 h4 h5, shr, shr]; rfl

/-! rem -/
def rmd (x y : Int) : Int :=
  if 9218868437227405312 < x % 2 ^ 63 ∨ 9218868437227405312 < y % 2 ^ 63 ∨ x % 2 ^ 63 = 9218868437227405312 ∨ y % 2 ^ 63 = 0 then 9221120237041090560
  else if y % 2 ^ 63 = 9218868437227405312 ∨ x % 2 ^ 63 = 0 then x
  else x / 2 ^ 63 * 2 ^ 63 + rsf (tp x y % tq x y) (pmin x y)
theorem rmd_n {x y : Int} (h : 9218868437227405312 < x % 2 ^ 63 ∨ 9218868437227405312 < y % 2 ^ 63 ∨ x % 2 ^ 63 = 9218868437227405312 ∨ y % 2 ^ 63 = 0) : (9221120237041090560 : Int) = rmd x y := by unfold rmd; rw [if_pos h]
theorem rmd_x {x y : Int} (h1 : ¬ 9218868437227405312 < x % 2 ^ 63) (h2 : ¬ 9218868437227405312 < y % 2 ^ 63) (h3 : ¬ x % 2 ^ 63 = 9218868437227405312) (h4 : ¬ y % 2 ^ 63 = 0) (h : y % 2 ^ 63 = 9218868437227405312 ∨ x % 2 ^ 63 = 0) : x = rmd x y := by
  unfold rmd; rw [if_neg (fun q => q.elim h1 (fun q => q.elim h2 (fun q => q.elim h3 h4))), if_pos h]
theorem tq_pos {x y : Int} (h : ¬ y % 2 ^ 63 = 0) : 0 < tq x y := shl_pos (pm_pos h)
theorem rmd_r0 {x y : Int} (h1 : ¬ 9218868437227405312 < x % 2 ^ 63) (h2 : ¬ 9218868437227405312 < y % 2 ^ 63) (h3 : ¬ x % 2 ^ 63 = 9218868437227405312) (h4 : ¬ y % 2 ^ 63 = 0) (h5 : ¬ y % 2 ^ 63 = 9218868437227405312) (h6 : ¬ x % 2 ^ 63 = 0) : rmd x y = x / 2 ^ 63 * 2 ^ 63 + rsf (tp x y % tq x y) (pmin x y) := by
  unfold rmd; rw [if_neg (fun q => q.elim h1 (fun q => q.elim h2 (fun q => q.elim h3 h4))), if_neg (fun q => q.elim h5 h6)]
theorem rmd_r {x y : Int} (h1 : ¬ 9218868437227405312 < x % 2 ^ 63) (h2 : ¬ 9218868437227405312 < y % 2 ^ 63) (h3 : ¬ x % 2 ^ 63 = 9218868437227405312) (h4 : ¬ y % 2 ^ 63 = 0) (h5 : ¬ y % 2 ^ 63 = 9218868437227405312) (h6 : ¬ x % 2 ^ 63 = 0) :
    x / 2 ^ 63 * 2 ^ 63 + rsf ((pm x * 2 ^ (pw x - if pw y < pw x then pw y else pw x).toNat).fmod (pm y * 2 ^ (pw y - if pw y < pw x then pw y else pw x).toNat)) (if pw y < pw x then pw y else pw x) = rmd x y := by
  have e : (pm x * 2 ^ (pw x - if pw y < pw x then pw y else pw x).toNat).fmod (pm y * 2 ^ (pw y - if pw y < pw x then pw y else pw x).toNat) = tp x y % tq x y := fmd (tq_pos h4)
  rw [rmd_r0 h1 h2 h3 h4 h5 h6, e]; rfl
theorem sg01 {x : Int} (hx0 : 0 ≤ x) (hx1 : x < 2 ^ 64) : x / 2 ^ 63 = 0 ∨ x / 2 ^ 63 = 1 := by omega
theorem fmod_nonneg' {a b : Int} (h : 0 < b) : 0 ≤ a.fmod b := Int.fmod_nonneg_of_pos a h
theorem fmod_bits {a b k : Int} (hb : 0 < b) (h : intBits b ≤ 100) (hk : k ≤ 2100) : intBits (a.fmod (b * 2 ^ k.toNat)) ≤ 2200 := bits_fmod_by (ne_shift hb) (bits_shl h hk)
end

/-! M5 -/
section
/-! the whole root by Newton's steps -/
def IsRoot (n q : Int) : Prop := 0 ≤ q ∧ q * q ≤ n ∧ n < (q + 1) * (q + 1)
theorem root_start {n : Int} (h : 0 < n) : 0 < 1 * (2 : Int) ^ (((intBits n : Int) + 1).fdiv 2).toNat ∧ n < (1 * 2 ^ (((intBits n : Int) + 1).fdiv 2).toNat + 1) * (1 * 2 ^ (((intBits n : Int) + 1).fdiv 2).toNat + 1) := by
  obtain ⟨b, e, _, h2⟩ := bits_lo h
  rw [e, Int.one_mul, fdv (by decide)]
  have hp := p2pos ((((b + 1 : Nat) : Int) + 1) / 2).toNat
  refine ⟨hp, ?_⟩
  have hk : b + 1 ≤ ((((b + 1 : Nat) : Int) + 1) / 2).toNat + ((((b + 1 : Nat) : Int) + 1) / 2).toNat := by omega
  generalize ((((b + 1 : Nat) : Int) + 1) / 2).toNat = k at *
  have h3 := pow_ge hk
  rw [p2add k k] at h3
  generalize (2 : Int) ^ k = x at *
  have e2 : (x + 1) * (x + 1) = x * x + 2 * x + 1 := by grind
  omega
theorem root_startb {n : Int} (hb : intBits n ≤ 300) : intBits (1 * (2 : Int) ^ (((intBits n : Int) + 1).fdiv 2).toNat) ≤ 300 := by
  rw [fdv (by decide)]
  exact Nat.le_trans (bits_shl (m := 1) (n := 151) (by decide) (by omega)) (by decide)
theorem bits_le_of {a b : Int} {k : Nat} (h0 : 0 ≤ a) (h : a ≤ b) (hb : intBits b ≤ k) : intBits a ≤ k := bits_of_natAbs_le (by omega) hb
theorem root_step {n s : Int} (hn : 0 < n) (hs : 0 < s) (h : n < (s + 1) * (s + 1)) : 0 < (s + n.fdiv s).fdiv 2 ∧ n < ((s + n.fdiv s).fdiv 2 + 1) * ((s + n.fdiv s).fdiv 2 + 1) := by
  rw [fdv hs, fdv (by decide)]
  obtain ⟨b1, b2⟩ := ediv_bounds n hs
  have h0 : 0 ≤ n / s := Int.ediv_nonneg (by omega) (by omega)
  have hpos : 0 < (s + n / s) / 2 := by
    rcases (show s = 1 ∨ 2 ≤ s by omega) with h1 | h1
    · subst h1
      rw [Int.ediv_one]
      omega
    · omega
  refine ⟨hpos, ?_⟩
  have hb : s + n / s + 1 ≤ 2 * ((s + n / s) / 2 + 1) := by omega
  generalize (s + n / s) / 2 = t at *
  generalize n / s = q at *
  have m1 : (s + q + 1) * (s + q + 1) ≤ (2 * (t + 1)) * (2 * (t + 1)) := Int.mul_le_mul hb hb (by omega) (by omega)
  have m2 : 0 ≤ (s - (q + 1)) * (s - (q + 1)) := by
    rcases Int.le_total 0 (s - (q + 1)) with h' | h'
    · exact Int.mul_nonneg h' h'
    · have := Int.mul_nonneg (show 0 ≤ -(s - (q + 1)) by omega) (show 0 ≤ -(s - (q + 1)) by omega)
      rw [Int.neg_mul_neg] at this
      exact this
  have e1 : (s + q + 1) * (s + q + 1) = (s - (q + 1)) * (s - (q + 1)) + 4 * (s * q + s) := by grind
  have e2 : (2 * (t + 1)) * (2 * (t + 1)) = 4 * ((t + 1) * (t + 1)) := by grind
  omega
theorem root_done {n s : Int} (hs : 0 < s) (h : n < (s + 1) * (s + 1)) (hd : s ≤ (s + n.fdiv s).fdiv 2) : IsRoot n s := by
  rw [fdv hs, fdv (by decide)] at hd
  obtain ⟨b1, b2⟩ := ediv_bounds n hs
  have m := mul_le_mul_l (Int.le_of_lt hs) (show s ≤ n / s by omega)
  exact ⟨by omega, by omega, h⟩
theorem root_zero {n : Int} (h : n = 0) : IsRoot n 0 := by subst h; exact ⟨by decide, by decide, by decide⟩
theorem root_st {n s : Int} (hn : 0 < n) (hs : 0 < s) (h : n < (s + 1) * (s + 1)) (hb : intBits s ≤ 300) (hd : ¬ s ≤ (s + n.fdiv s).fdiv 2) :
    0 < (s + n.fdiv s).fdiv 2 ∧ n < ((s + n.fdiv s).fdiv 2 + 1) * ((s + n.fdiv s).fdiv 2 + 1) ∧ intBits ((s + n.fdiv s).fdiv 2) ≤ 300 := by
  obtain ⟨a, b⟩ := root_step hn hs h
  exact ⟨a, b, bits_le_of (by omega) (by omega) hb⟩
theorem root_ms {n s : Int} (hs : 0 < s) (hd : ¬ s ≤ (s + n.fdiv s).fdiv 2) : ((s + n.fdiv s).fdiv 2).toNat < s.toNat := by omega
theorem root_s0 {n : Int} (h : 0 < n) (hb : intBits n ≤ 300) : 0 < 1 * (2 : Int) ^ (((intBits n : Int) + 1).fdiv 2).toNat ∧ n < (1 * 2 ^ (((intBits n : Int) + 1).fdiv 2).toNat + 1) * (1 * 2 ^ (((intBits n : Int) + 1).fdiv 2).toNat + 1) ∧ intBits (1 * (2 : Int) ^ (((intBits n : Int) + 1).fdiv 2).toNat) ≤ 300 :=
  ⟨(root_start h).1, (root_start h).2, root_startb hb⟩
theorem root_k {n : Int} (hb : intBits n ≤ 300) : 0 ≤ ((intBits n : Int) + 1).fdiv 2 := by rw [fdv (by decide)]; omega
theorem root_kb {n : Int} (hb : intBits n ≤ 300) : ((intBits 1 : Nat) : Int) + ((intBits n : Int) + 1).fdiv 2 ≤ 2 ^ 27 := by
  rw [fdv (by decide)]
  have e : ((intBits 1 : Nat) : Int) = 1 := by decide
  omega
theorem root_facts {n q : Int} (hb : intBits n ≤ 300) (h : IsRoot n q) : intBits q ≤ 300 ∧ 0 ≤ q ∧ True := by
  obtain ⟨a, b, c⟩ := h
  refine ⟨bits_le_of a ?_ hb, a, trivial⟩
  rcases (show q = 0 ∨ 1 ≤ q by omega) with h | h
  · subst h; omega
  · have := mul_le_mul_l a h
    omega
theorem sq_bits {a : Int} (h : intBits a ≤ 100) : intBits (a * 2 ^ Int.toNat (2 * 56)) ≤ 300 := Nat.le_trans (bits_shl (n := 112) h (by decide)) (by decide)
theorem sq_bits1 {a : Int} (h : intBits a ≤ 100) : intBits (a * 2 ^ Int.toNat 1 * 2 ^ Int.toNat (2 * 56)) ≤ 300 := Nat.le_trans (bits_shl (n := 112) (bits_shl (n := 1) h (by decide)) (by decide)) (by decide)
theorem sq_b3 {q : Int} (h : intBits q ≤ 300) : intBits (2 * q + 1) ≤ 2200 := Nat.le_trans (bits_add (bits_mul (m := 2) (by decide) h) (n := 1) (by decide)) (by decide)
theorem sq_b4 {q : Int} (h : intBits q ≤ 300) : intBits (2 * q + 0) ≤ 2200 := Nat.le_trans (bits_add (bits_mul (m := 2) (by decide) h) (n := 1) (by decide)) (by decide)
def sm (x : Int) : Int := if pw x % 2 = 0 then pm x else pm x * 2 ^ 1
def sp (x : Int) : Int := if pw x % 2 = 0 then pw x else pw x - 1
def SqR (x r : Int) : Prop :=
  if 9218868437227405312 < x % 2 ^ 63 ∨ x % 2 ^ 63 = 0 then r = x
  else if x / 2 ^ 63 = 1 then r = 9221120237041090560
  else if x % 2 ^ 63 = 9218868437227405312 then r = x
  else ∃ q, IsRoot (sm x * 2 ^ 112) q ∧ r = 0 * 2 ^ 63 + rsf (2 * q + if q * q < sm x * 2 ^ 112 then 1 else 0) (sp x / 2 - 56 - 1)
theorem sq_p0 {p : Int} (h : -1075 ≤ p) : -1400 ≤ p.fdiv 2 - 56 - 1 := by rw [fdv (by decide)]; omega
theorem sq_p1 {p : Int} (h : p ≤ 972) : p.fdiv 2 - 56 - 1 ≤ 1000 := by rw [fdv (by decide)]; omega
theorem sq_a {x : Int} (h : 9218868437227405312 < x % 2 ^ 63 ∨ x % 2 ^ 63 = 0) : SqR x x := by unfold SqR; rw [if_pos h]
theorem sq_b {x : Int} (h1 : ¬ 9218868437227405312 < x % 2 ^ 63) (h2 : ¬ x % 2 ^ 63 = 0) (h : x / 2 ^ 63 = 1) : SqR x 9221120237041090560 := by unfold SqR; rw [if_neg (fun q => q.elim h1 h2), if_pos h]
theorem sq_c {x : Int} (h1 : ¬ 9218868437227405312 < x % 2 ^ 63) (h2 : ¬ x % 2 ^ 63 = 0) (h3 : ¬ x / 2 ^ 63 = 1) (h : x % 2 ^ 63 = 9218868437227405312) : SqR x x := by unfold SqR; rw [if_neg (fun q => q.elim h1 h2), if_neg h3, if_pos h]
theorem sq_d {x r : Int} (h1 : ¬ 9218868437227405312 < x % 2 ^ 63) (h2 : ¬ x % 2 ^ 63 = 0) (h3 : ¬ x / 2 ^ 63 = 1) (h : ¬ x % 2 ^ 63 = 9218868437227405312) (q : Int) (hq : IsRoot (sm x * 2 ^ 112) q) (e : r = 0 * 2 ^ 63 + rsf (2 * q + if q * q < sm x * 2 ^ 112 then 1 else 0) (sp x / 2 - 56 - 1)) : SqR x r := by
  unfold SqR; rw [if_neg (fun q => q.elim h1 h2), if_neg h3, if_neg h]; exact ⟨q, hq, e⟩
theorem sm_1 {x : Int} (h : (pw x).fmod 2 ≠ 0) : pm x * 2 ^ Int.toNat 1 = sm x ∧ pw x - 1 = sp x := by
  have e : (pw x).fmod 2 = pw x % 2 := mdr _ 1
  rw [e] at h
  unfold sm sp
  rw [if_neg h, if_neg h]
  exact ⟨rfl, rfl⟩
theorem sm_0 {x : Int} (h : (pw x).fmod 2 = 0) : pm x = sm x ∧ pw x = sp x := by
  have e : (pw x).fmod 2 = pw x % 2 := mdr _ 1
  rw [e] at h
  unfold sm sp
  rw [if_pos h, if_pos h]
  exact ⟨rfl, rfl⟩
theorem sq_end {x a p q : Int} (ha : a = sm x ∧ p = sp x) (h1 : ¬ 9218868437227405312 < x % 2 ^ 63) (h2 : ¬ x % 2 ^ 63 = 0) (h3 : ¬ x / 2 ^ 63 = 1) (h : ¬ x % 2 ^ 63 = 9218868437227405312) (hq : IsRoot (a * 2 ^ Int.toNat (2 * 56)) q) (hl : q * q < a * 2 ^ Int.toNat (2 * 56)) :
    SqR x (0 * 2 ^ 63 + rsf (2 * q + 1) (p.fdiv 2 - 56 - 1)) := by
  obtain ⟨rfl, rfl⟩ := ha
  have e : Int.toNat (2 * 56) = 112 := rfl
  rw [e] at hq hl
  refine sq_d h1 h2 h3 h q hq ?_
  rw [if_pos hl, fdv (by decide)]
theorem sq_end0 {x a p q : Int} (ha : a = sm x ∧ p = sp x) (h1 : ¬ 9218868437227405312 < x % 2 ^ 63) (h2 : ¬ x % 2 ^ 63 = 0) (h3 : ¬ x / 2 ^ 63 = 1) (h : ¬ x % 2 ^ 63 = 9218868437227405312) (hq : IsRoot (a * 2 ^ Int.toNat (2 * 56)) q) (hl : ¬ q * q < a * 2 ^ Int.toNat (2 * 56)) :
    SqR x (0 * 2 ^ 63 + rsf (2 * q + 0) (p.fdiv 2 - 56 - 1)) := by
  obtain ⟨rfl, rfl⟩ := ha
  have e : Int.toNat (2 * 56) = 112 := rfl
  rw [e] at hq hl
  refine sq_d h1 h2 h3 h q hq ?_
  rw [if_neg hl, fdv (by decide)]
end

/-! M6 -/
section
theorem sz_pm (n : Int) : sz n = pm n * 2 ^ (pw n + 1074).toNat := by
  unfold sz pm pw
  split
  · rename_i h
    have e : ((-1074 : Int) + 1074).toNat = 0 := rfl
    rw [e, Int.pow_zero, Int.mul_one]
  · rename_i h
    have e : (n / 2 ^ 52 % 2048 - 1075 + 1074 : Int) = n / 2 ^ 52 % 2048 - 1 := by omega
    rw [e]
theorem sz_bits (n : Int) : intBits (sz n) ≤ 2200 := by
  rw [sz_pm]
  exact Nat.le_trans (bits_shl (n := 2046) (pm_bits n) (by have := pw_le n; omega)) (by decide)
theorem kd_cases (n : Int) : (kd n = 2 ∧ 9218868437227405312 < n % 2 ^ 63) ∨ (kd n = 1 ∧ n % 2 ^ 63 = 9218868437227405312) ∨ (kd n = 0 ∧ n % 2 ^ 63 < 9218868437227405312) := by
  unfold kd
  split
  · exact .inl ⟨rfl, by assumption⟩
  · split
    · exact .inr (.inl ⟨rfl, by assumption⟩)
    · exact .inr (.inr ⟨rfl, by omega⟩)
theorem c_bits {c : Int} (h : (2 : Int) ^ 1074 = c) : intBits c ≤ 1100 := by
  subst h
  have h2 := bits_unique (n := (2 : Int) ^ 1074) (b := 1074) (Int.le_refl _) (by rw [p2add 1074 1]; have := p2pos 1074; omega)
  omega
theorem sz_bits' {n z : Int} (h : sz n = z) : intBits z ≤ 2200 := by subst h; exact sz_bits n
def KindOf (n k : Int) : Prop := (k = 2 ∧ 9218868437227405312 < n % 2 ^ 63) ∨ (k = 1 ∧ n % 2 ^ 63 = 9218868437227405312) ∨ (k = 0 ∧ n % 2 ^ 63 < 9218868437227405312)
end

/-! WOps -/
section
/-- a fact laid aside: the walk does not look into it -/
structure Hold (P : Prop) : Prop where
  out : P
def BackL (ns : List Int) (h₀ : Heap) (L : Addr) (m : Str → Option Value) (news : List (Addr × Obj)) (s : Shared) (Q : Value → Shared → Prop) : Prop :=
  ∀ (D : Addr) (vs : List Value) (c : Nat) (h' : Heap) (tk' : Nat), IntsAre vs ns → Fr h₀ L h' m → News h₀ L h' ((D, W.listOf vs.toArray c) :: news) → AllLt D news → Q (.ref D) { s with heap := h', toks := tk' }
theorem backL {ns : List Int} {h₀ : Heap} {L : Addr} {m : Str → Option Value} {news : List (Addr × Obj)} {s : Shared} {Q : Value → Shared → Prop} {D : Addr} {vs : List Value} {c : Nat} {h' : Heap} {tk' : Nat} {rest : List (Addr × Obj)}
    (ret : BackL ns h₀ L m news s Q) (hi : IntsAre vs ns) (F : Fr h₀ L h' m) (N : News h₀ L h' ((D, W.listOf vs.toArray c) :: rest)) (hs : ∀ p ∈ news, p ∈ rest) (l : AllLt D news) : Q (.ref D) { s with heap := h', toks := tk' } :=
  ret _ _ _ _ _ hi F (fun p hp => by
    rcases List.mem_cons.mp hp with rfl | hp
    · exact N _ (.head _)
    · exact N p (.tail _ (hs p hp))) l
theorem newsIsList {g h : Heap} {L l : Addr} {news : List (Addr × Obj)} {vs : List Value} {nn : Nat} (N : News g L h news) (hm : (l, W.listOf vs.toArray nn) ∈ news) : h.IsList l vs.toArray := ⟨_, (N _ hm).1, rfl, nn, rfl⟩
section
variable {prog : Program} {w : World} {A : Around} {E : Value → Shared → Prop} {s : Shared} {a b n : Int} {t u : Tok} {Q : Value → Shared → Prop}
theorem mod_pos (hb : 0 < b) (h : Q (.int (a % b) s.toks) { s with toks := s.toks + 1 }) : wpAny (model prog w) A (binaryOp .Mod (.int a t) (.int b u)) Q E s :=
  mod_int' (by omega) (by rw [Int.fmod_eq_emod_of_nonneg _ (by omega)]; exact h)
theorem div_pos (hb : 0 < b) (hp : Builtin.divisionGoesByPylong a b = false) (h : Q (.int (a / b) s.toks) { s with toks := s.toks + 1 }) : wpAny (model prog w) A (binaryOp .FloorDiv (.int a t) (.int b u)) Q E s :=
  floordiv_int (by omega) (by rw [Int.fdiv_eq_ediv_of_nonneg _ (by omega)]; exact h) (.inl hp)
theorem pow2 (k : Nat) (hk : n = k) (hn2 : n ≤ 1000000) (h : Q (.int (2 ^ k) s.toks) { s with toks := s.toks + 1 }) : wpAny (model prog w) A (binaryOp .Pow (.int 2 t) (.int n u)) Q E s := by
  subst hk
  exact pow_int_small (by omega) hn2 (by decide) h
theorem powv (h0 : 0 ≤ n) (hn2 : n ≤ 100) (h : Q (.int (2 ^ n.toNat) s.toks) { s with toks := s.toks + 1 }) : wpAny (model prog w) A (binaryOp .Pow (.int 2 t) (.int n u)) Q E s :=
  pow_int_small h0 (by omega) (by decide) h
theorem div4 (h : Q (.int (a / 4) s.toks) { s with toks := s.toks + 1 }) : wpAny (model prog w) A (binaryOp .FloorDiv (.int a t) (.int 4 u)) Q E s :=
  div_pos (by decide) (noPl (m := 64) (by decide) (by decide)) h
end
end

/-! M7 -/
section
theorem pmin_ge (x y : Int) : -1074 ≤ pmin x y := by
  unfold pmin
  split
  · exact pw_ge y
  · exact pw_ge x
theorem pow_up {a b : Int} (h : b ≤ a) (h2 : -1074 ≤ b) : (2 : Int) ^ (a + 1074).toNat = 2 ^ (a - b).toNat * 2 ^ (b + 1074).toNat := pow_split3 (by omega)
theorem sz_tp (x y : Int) : sz x = tp x y * 2 ^ (pmin x y + 1074).toNat := by
  rw [sz_pm]
  unfold tp
  have h : pmin x y ≤ pw x := by unfold pmin; split <;> omega
  rw [pow_up h (pmin_ge x y), Int.mul_assoc]
theorem sz_tq (x y : Int) : sz y = tq x y * 2 ^ (pmin x y + 1074).toNat := by
  rw [sz_pm]
  unfold tq
  have h : pmin x y ≤ pw y := by unfold pmin; split <;> omega
  rw [pow_up h (pmin_ge x y), Int.mul_assoc]
theorem tp_pos {x y : Int} (h : ¬ x % 2 ^ 63 = 0) : 0 < tp x y := shl_pos (pm_pos h)
theorem scale_le {a c A b V : Int} (hV : 0 < V) (h : 2 * a * c ≤ A * b) : 2 * (a * V) * c ≤ A * (b * V) := by
  have m := Int.mul_le_mul_of_nonneg_right h (Int.le_of_lt hV)
  grind
theorem scale_ge {a c A b V : Int} (hV : 0 < V) (h : A * b ≤ 2 * a * c) : A * (b * V) ≤ 2 * (a * V) * c := by
  have m := Int.mul_le_mul_of_nonneg_right h (Int.le_of_lt hV)
  grind
theorem scale_eq {a c A b V : Int} (hV : 0 < V) (h : 2 * (a * V) * c = A * (b * V)) : 2 * a * c = A * b := by
  apply Int.eq_of_mul_eq_mul_left (show V ≠ 0 by omega)
  grind
theorem near_scale {f a b V : Int} (hV : 0 < V) (h : Near f a b) : Near f (a * V) (b * V) := by
  obtain ⟨h0, h1, h2, h3⟩ := h
  unfold Near
  generalize (2 : Int) ^ 1074 = c at *
  refine ⟨h0, h1, fun q => ?_, fun q => ?_⟩
  · exact ⟨scale_le hV (h2 q).1, fun e => (h2 q).2 (scale_eq hV e)⟩
  · exact ⟨scale_ge hV (h3 q).1, fun e => (h3 q).2 (scale_eq hV e.symm).symm⟩
theorem dv_main {x y : Int} (kx : x % 2 ^ 63 < 9218868437227405312) (ky : y % 2 ^ 63 < 9218868437227405312) (nx : x % 2 ^ 63 ≠ 0) (ny : y % 2 ^ 63 ≠ 0) :
    ∃ r, dv x y = sgx x y * 2 ^ 63 + r ∧ Near r (sz x) (sz y) ∧ 0 < sz x := by
  refine ⟨rrf (tp x y) (tq x y), dv_ff0 (by omega) (by omega) (by omega) (by omega) (by omega), ?_, ?_⟩
  · have n := near_scale (p2pos (pmin x y + 1074).toNat) (rrf_near (tp_pos (y := y) nx) (tq_pos (x := x) ny))
    rw [← sz_tp, ← sz_tq] at n
    exact n
  · rw [sz_tp x y]
    exact shl_pos (tp_pos nx)
theorem no4 {a b c d : Prop} (h : ¬ (a ∨ b)) (h2 : ¬ c) (h3 : ¬ d) : ¬ (a ∨ b ∨ c ∨ d) := fun q => q.elim (fun q => h (.inl q)) fun q => q.elim (fun q => h (.inr q)) fun q => q.elim h2 h3
theorem inf_n0 {a : Int} (h : a = 9218868437227405312) : ¬ a = 0 := by rw [h]; decide
/-- the law of the quotient, the table -/
theorem dv_table {x y : Int} (hx0 : 0 ≤ x) (hx1 : x < 2 ^ 64) (hy0 : 0 ≤ y) (hy1 : y < 2 ^ 64) :
    ((9218868437227405312 < x % 2 ^ 63 ∨ 9218868437227405312 < y % 2 ^ 63 ∨ (x % 2 ^ 63 = 9218868437227405312 ∧ y % 2 ^ 63 = 9218868437227405312) ∨ (x % 2 ^ 63 = 0 ∧ y % 2 ^ 63 = 0)) ∧ dv x y = 9221120237041090560) ∨
    (¬ (9218868437227405312 < x % 2 ^ 63 ∨ 9218868437227405312 < y % 2 ^ 63 ∨ (x % 2 ^ 63 = 9218868437227405312 ∧ y % 2 ^ 63 = 9218868437227405312) ∨ (x % 2 ^ 63 = 0 ∧ y % 2 ^ 63 = 0)) ∧
      ∃ r, dv x y = sgx x y * 2 ^ 63 + r ∧ 0 ≤ r ∧ r ≤ 9218868437227405312 ∧ (y % 2 ^ 63 = 9218868437227405312 ∨ x % 2 ^ 63 = 0 → r = 0) ∧ (x % 2 ^ 63 = 9218868437227405312 ∨ y % 2 ^ 63 = 0 → r = 9218868437227405312)) := by
  by_cases hn : 9218868437227405312 < x % 2 ^ 63 ∨ 9218868437227405312 < y % 2 ^ 63
  · left
    refine ⟨hn.imp id .inl, ?_⟩
    unfold dv; rw [if_pos hn]
  · by_cases hxi : x % 2 ^ 63 = 9218868437227405312
    · by_cases hyi : y % 2 ^ 63 = 9218868437227405312
      · left
        refine ⟨.inr (.inr (.inl ⟨hxi, hyi⟩)), ?_⟩
        unfold dv; rw [if_neg hn, if_pos hxi, if_pos hyi]
      · right
        refine ⟨no4 hn (fun q => hyi q.2) (fun q => inf_n0 hxi q.1), 9218868437227405312, ?_, by decide, by decide, fun q => q.elim (fun q => absurd q hyi) (fun q => absurd q (inf_n0 hxi)), fun _ => rfl⟩
        unfold dv; rw [if_neg hn, if_pos hxi, if_neg hyi]
    · by_cases hyi : y % 2 ^ 63 = 9218868437227405312
      · right
        refine ⟨no4 hn (fun q => hxi q.1) (fun q => inf_n0 hyi q.2), 0, ?_, by decide, by decide, fun _ => rfl, fun q => q.elim (fun q => absurd q hxi) (fun q => absurd q (inf_n0 hyi))⟩
        unfold dv; rw [if_neg hn, if_neg hxi, if_pos hyi, Int.add_zero]
      · by_cases hy : y % 2 ^ 63 = 0
        · by_cases hx : x % 2 ^ 63 = 0
          · left
            refine ⟨.inr (.inr (.inr ⟨hx, hy⟩)), ?_⟩
            unfold dv; rw [if_neg hn, if_neg hxi, if_neg hyi, if_pos hy, if_pos hx]
          · right
            refine ⟨no4 hn (fun q => hxi q.1) (fun q => hx q.1), 9218868437227405312, ?_, by decide, by decide, fun q => q.elim (fun q => absurd q hyi) (fun q => absurd q hx), fun _ => rfl⟩
            unfold dv; rw [if_neg hn, if_neg hxi, if_neg hyi, if_pos hy, if_neg hx]
        · by_cases hx : x % 2 ^ 63 = 0
          · right
            refine ⟨no4 hn (fun q => hxi q.1) (fun q => hy q.2), 0, ?_, by decide, by decide, fun _ => rfl, fun q => q.elim (fun q => absurd q hxi) (fun q => absurd q hy)⟩
            have ht : tp x y = 0 := by
              unfold tp
              have : pm x = 0 := by unfold pm; split <;> omega
              rw [this, Int.zero_mul]
            rw [dv_ff0 (fun q => hn (.inl q)) (fun q => hn (.inr q)) hxi hyi hy, ht]
            unfold rrf
            rw [if_pos rfl]
          · right
            have kx : x % 2 ^ 63 < 9218868437227405312 := by omega
            have ky : y % 2 ^ 63 < 9218868437227405312 := by omega
            obtain ⟨r, e, n, _⟩ := dv_main (x := x) (y := y) kx ky hx hy
            exact ⟨no4 hn (fun q => hxi q.1) (fun q => hx q.1), r, e, n.1, n.2.1, fun q => q.elim (fun q => absurd q hyi) (fun q => absurd q hx), fun q => q.elim (fun q => absurd q hxi) (fun q => absurd q hy)⟩
theorem sgx_c {x y : Int} (hx0 : 0 ≤ x) (hx1 : x < 2 ^ 64) (hy0 : 0 ≤ y) (hy1 : y < 2 ^ 64) : (sgx x y = 0 ∧ x / 2 ^ 63 = y / 2 ^ 63) ∨ (sgx x y = 1 ∧ x / 2 ^ 63 ≠ y / 2 ^ 63) := by
  rw [sgx_v hx0 hx1 hy0 hy1]
  split
  · exact .inl ⟨rfl, by assumption⟩
  · exact .inr ⟨rfl, by assumption⟩
theorem dq_nan {x y f : Int} (h : Hold (dv x y = f)) (hx0 : 0 ≤ x) (hx1 : x < 2 ^ 64) (hy0 : 0 ≤ y) (hy1 : y < 2 ^ 64) (c : 9218868437227405312 < x % 2 ^ 63 ∨ 9218868437227405312 < y % 2 ^ 63 ∨ (x % 2 ^ 63 = 9218868437227405312 ∧ y % 2 ^ 63 = 9218868437227405312) ∨ (x % 2 ^ 63 = 0 ∧ y % 2 ^ 63 = 0)) : (f == 9221120237041090560) = true := by
  rcases dv_table hx0 hx1 hy0 hy1 with ⟨_, e⟩ | ⟨n, _⟩
  · rw [h.out] at e; rw [e]; rfl
  · exact absurd c n
theorem dq_sign {x y f : Int} (h : Hold (dv x y = f)) (hx0 : 0 ≤ x) (hx1 : x < 2 ^ 64) (hy0 : 0 ≤ y) (hy1 : y < 2 ^ 64) (c : ¬ (9218868437227405312 < x % 2 ^ 63 ∨ 9218868437227405312 < y % 2 ^ 63 ∨ (x % 2 ^ 63 = 9218868437227405312 ∧ y % 2 ^ 63 = 9218868437227405312) ∨ (x % 2 ^ 63 = 0 ∧ y % 2 ^ 63 = 0)))
    (e : (decide (9223372036854775808 ≤ f) != (decide (9223372036854775808 ≤ x) != decide (9223372036854775808 ≤ y))) = true) {b : Bool} : b = true := by
  rcases dv_table hx0 hx1 hy0 hy1 with ⟨n, _⟩ | ⟨_, r, er, r0, r1, _, _⟩
  · exact absurd n c
  · exfalso
    rw [h.out] at er
    rcases sgx_c hx0 hx1 hy0 hy1 with ⟨s, d⟩ | ⟨s, d⟩
    · rw [s] at er
      have q1 : decide (9223372036854775808 ≤ f) = false := decide_eq_false (by omega)
      have q2 : decide (9223372036854775808 ≤ x) = decide (9223372036854775808 ≤ y) := decide_eq_decide.mpr (by omega)
      rw [q1, q2] at e
      simp at e
    · rw [s] at er
      have q1 : decide (9223372036854775808 ≤ f) = true := decide_eq_true (by omega)
      have q2 : decide (9223372036854775808 ≤ x) = !decide (9223372036854775808 ≤ y) := by
        by_cases q : 9223372036854775808 ≤ y
        · rw [decide_eq_true q, decide_eq_false (by omega)]; rfl
        · rw [decide_eq_false q, decide_eq_true (by omega)]; rfl
      rw [q1, q2] at e
      simp at e
theorem dq_mod {x y f r : Int} (hx0 : 0 ≤ x) (hx1 : x < 2 ^ 64) (hy0 : 0 ≤ y) (hy1 : y < 2 ^ 64) (er : f = sgx x y * 2 ^ 63 + r) (r0 : 0 ≤ r) (r1 : r ≤ 9218868437227405312) : f % 9223372036854775808 = r := by
  rcases sgx_c hx0 hx1 hy0 hy1 with ⟨s, _⟩ | ⟨s, _⟩ <;> rw [s] at er <;> omega
theorem dq_zero {x y f : Int} (h : Hold (dv x y = f)) (hx0 : 0 ≤ x) (hx1 : x < 2 ^ 64) (hy0 : 0 ≤ y) (hy1 : y < 2 ^ 64) (c : ¬ (9218868437227405312 < x % 2 ^ 63 ∨ 9218868437227405312 < y % 2 ^ 63 ∨ (x % 2 ^ 63 = 9218868437227405312 ∧ y % 2 ^ 63 = 9218868437227405312) ∨ (x % 2 ^ 63 = 0 ∧ y % 2 ^ 63 = 0)))
    (d : y % 2 ^ 63 = 9218868437227405312 ∨ x % 2 ^ 63 = 0) : (f % 9223372036854775808 == 0) = true := by
  rcases dv_table hx0 hx1 hy0 hy1 with ⟨n, _⟩ | ⟨_, r, er, r0, r1, z, _⟩
  · exact absurd n c
  · rw [h.out] at er
    rw [dq_mod hx0 hx1 hy0 hy1 er r0 r1, z d]
    rfl
theorem dq_inf {x y f : Int} (h : Hold (dv x y = f)) (hx0 : 0 ≤ x) (hx1 : x < 2 ^ 64) (hy0 : 0 ≤ y) (hy1 : y < 2 ^ 64) (c : ¬ (9218868437227405312 < x % 2 ^ 63 ∨ 9218868437227405312 < y % 2 ^ 63 ∨ (x % 2 ^ 63 = 9218868437227405312 ∧ y % 2 ^ 63 = 9218868437227405312) ∨ (x % 2 ^ 63 = 0 ∧ y % 2 ^ 63 = 0)))
    (d : x % 2 ^ 63 = 9218868437227405312 ∨ y % 2 ^ 63 = 0) : (f % 9223372036854775808 == 9218868437227405312) = true := by
  rcases dv_table hx0 hx1 hy0 hy1 with ⟨n, _⟩ | ⟨_, r, er, r0, r1, _, z⟩
  · exact absurd n c
  · rw [h.out] at er
    rw [dq_mod hx0 hx1 hy0 hy1 er r0 r1, z d]
    rfl
/-- the law of the quotient, finite things -/
theorem dq_near {x y f c zx zy : Int} (h : Hold (dv x y = f)) (hx0 : 0 ≤ x) (hx1 : x < 2 ^ 64) (hy0 : 0 ≤ y) (hy1 : y < 2 ^ 64) (kx : x % 2 ^ 63 < 9218868437227405312) (ky : y % 2 ^ 63 < 9218868437227405312) (nx : x % 9223372036854775808 ≠ 0) (ny : y % 9223372036854775808 ≠ 0)
    (hc : Hold ((2 : Int) ^ 1074 = c)) (ezx : Hold (sz x = zx)) (ezy : Hold (sz y = zy)) :
    0 < zx ∧ 0 < c ∧
    (f % 9223372036854775808 < 9218868437227405312 → 2 * zx * c ≤ (sz (f % 9223372036854775808) + sz (f % 9223372036854775808 + 1)) * zy ∧ (2 * zx * c = (sz (f % 9223372036854775808) + sz (f % 9223372036854775808 + 1)) * zy → f % 9223372036854775808 % 2 = 0)) ∧
    (0 < f % 9223372036854775808 → (sz (f % 9223372036854775808) + sz (f % 9223372036854775808 - 1)) * zy ≤ 2 * zx * c ∧ ((sz (f % 9223372036854775808) + sz (f % 9223372036854775808 - 1)) * zy = 2 * zx * c → f % 9223372036854775808 % 2 = 0)) := by
  obtain ⟨r, er, n, p⟩ := dv_main (x := x) (y := y) kx ky (by omega) (by omega)
  rw [h.out] at er
  rw [dq_mod hx0 hx1 hy0 hy1 er n.1 n.2.1]
  have hcp : 0 < c := by rw [← hc.out]; exact p2pos 1074
  unfold Near at n
  rw [hc.out, ezx.out, ezy.out] at n
  rw [ezx.out] at p
  exact ⟨p, hcp, n.2.2.1, n.2.2.2⟩
section
variable {x y f c zx zy z1 z2 : Int} (h : Hold (dv x y = f)) (hx0 : 0 ≤ x) (hx1 : x < 2 ^ 64) (hy0 : 0 ≤ y) (hy1 : y < 2 ^ 64) (kx : x % 2 ^ 63 < 9218868437227405312) (ky : y % 2 ^ 63 < 9218868437227405312) (nx : x % 9223372036854775808 ≠ 0) (ny : y % 9223372036854775808 ≠ 0)
    (hc : Hold ((2 : Int) ^ 1074 = c)) (ezx : Hold (sz x = zx)) (ezy : Hold (sz y = zy)) (e1 : Hold (sz (f % 9223372036854775808) = z1))
include h hx0 hx1 hy0 hy1 kx ky nx ny hc ezx ezy
include e1 in
theorem dq_up {b : Bool} (e2 : Hold (sz (f % 9223372036854775808 + 1) = z2)) (hl : f % 9223372036854775808 < 9218868437227405312) (q : (z1 + z2) * zy < 2 * zx * c ∨ (2 * zx * c = (z1 + z2) * zy ∧ f % 9223372036854775808 % 2 ≠ 0)) : b = true := by
  obtain ⟨_, _, u, _⟩ := dq_near h hx0 hx1 hy0 hy1 kx ky nx ny hc ezx ezy
  obtain ⟨u1, u2⟩ := u hl
  rw [e1.out, e2.out] at u1 u2
  exfalso
  rcases q with q | ⟨q, q'⟩
  · exact Int.not_lt.mpr u1 q
  · exact q' (u2 q)
include e1 in
theorem dq_dn1 (e2 : Hold (sz (f % 9223372036854775808 - 1) = z2)) (hl : 0 < f % 9223372036854775808) (q : 2 * zx * c = (z1 + z2) * zy) : (f % 9223372036854775808 % 2 == 0) = true := by
  obtain ⟨_, _, _, u⟩ := dq_near h hx0 hx1 hy0 hy1 kx ky nx ny hc ezx ezy
  obtain ⟨u1, u2⟩ := u hl
  rw [e1.out, e2.out] at u1 u2
  rw [u2 q.symm]
  rfl
include e1 in
theorem dq_dn2 {b : Bool} (e2 : Hold (sz (f % 9223372036854775808 - 1) = z2)) (hl : 0 < f % 9223372036854775808) (q : ¬ (z1 + z2) * zy < 2 * zx * c) (q2 : 2 * zx * c ≠ (z1 + z2) * zy) : b = true := by
  obtain ⟨_, _, _, u⟩ := dq_near h hx0 hx1 hy0 hy1 kx ky nx ny hc ezx ezy
  obtain ⟨u1, u2⟩ := u hl
  rw [e1.out, e2.out] at u1 u2
  exact absurd (Int.le_antisymm (Int.not_lt.mp q) u1) q2
theorem dq_0 {b : Bool} (q : ¬ 0 < 2 * zx * c) : b = true := by
  obtain ⟨p, p2, _, _⟩ := dq_near h hx0 hx1 hy0 hy1 kx ky nx ny hc ezx ezy
  exfalso
  have := Int.mul_pos (show 0 < 2 * zx by omega) p2
  omega
end
end

/-! M8 -/
section
theorem rz_pos {y z : Int} (e : Hold (sz y = z)) (h : y % 9223372036854775808 ≠ 0) : 0 < z := by
  rw [← e.out, sz_pm]
  exact shl_pos (pm_pos h)
/-- every finite double's bits are those of a mantissa and an exponent -/
theorem enc_of {n : Int} (h0 : 0 ≤ n) (h1 : n < 9218868437227405312) : ∃ (w : Int) (e : Nat), n = enc w e ∧ 0 ≤ w ∧ w < 2 ^ 53 ∧ (2 ^ 52 ≤ w ∨ e = 0) ∧ e + 2 ≤ 2047 := by
  by_cases h : n < 2 ^ 52
  · exact ⟨n, 0, by unfold enc; rw [if_pos h], h0, by omega, .inr rfl, by decide⟩
  · refine ⟨n % 2 ^ 52 + 2 ^ 52, (n / 2 ^ 52 - 1).toNat, ?_, by omega, by omega, .inl (by omega), by omega⟩
    unfold enc
    rw [if_neg (by omega)]
    omega
theorem sz_step {n : Int} (h0 : 0 ≤ n) (h1 : n < 9218868437227405312) : sz n < sz (n + 1) := by
  obtain ⟨w, e, rfl, w0, w1, hlo, he⟩ := enc_of h0 h1
  rw [sz_enc w0 w1 hlo (by omega), enc_succ w0 w1 hlo he]
  have := p2pos e
  rw [Int.add_mul]
  omega
theorem sz_mono {a : Int} (k : Nat) (h0 : 0 ≤ a) (h1 : a + k ≤ 9218868437227405312) : sz a + k ≤ sz (a + k) := by
  induction k with
  | zero => simp
  | succ k ih =>
    have i := ih (by omega)
    have s := sz_step (n := a + k) (by omega) (by omega)
    have e : a + ((k + 1 : Nat) : Int) = a + k + 1 := by omega
    rw [e]
    omega
theorem sz_le {a b : Int} (h0 : 0 ≤ a) (h : a ≤ b) (h1 : b ≤ 9218868437227405312) : sz a ≤ sz b := by
  have m := sz_mono (a := a) (b - a).toNat h0 (by omega)
  have e : a + ((b - a).toNat : Int) = b := by omega
  rw [e] at m
  omega
theorem sz_lt {a b : Int} (h0 : 0 ≤ a) (h : a < b) (h1 : b ≤ 9218868437227405312) : sz a < sz b := by
  have m := sz_mono (a := a) (b - a).toNat h0 (by omega)
  have e : a + ((b - a).toNat : Int) = b := by omega
  rw [e] at m
  omega
theorem near_unique {r g T B : Int} (hB : 0 < B) (n : Near r T B) (h0 : 0 ≤ g) (h1 : g < 9218868437227405312) (e : T * 2 ^ 1074 = sz g * B) : r = g := by
  obtain ⟨r0, r1, u, d⟩ := n
  have e2 : 2 * T * 2 ^ 1074 = 2 * sz g * B := by rw [Int.mul_assoc, e, Int.mul_assoc]
  rw [e2] at u d
  rcases Int.lt_trichotomy r g with h | h | h
  · exfalso
    have u1 := Int.le_of_mul_le_mul_right (u (by omega)).1 hB
    have a1 := sz_lt r0 h (by omega)
    have a2 := sz_le (a := r + 1) (b := g) (by omega) (by omega) (by omega)
    omega
  · exact h
  · exfalso
    have d1 := Int.le_of_mul_le_mul_right (d (by omega)).1 hB
    have a1 := sz_lt h0 h r1
    have a2 := sz_le (a := g) (b := r - 1) h0 (by omega) (by omega)
    omega
theorem rep (e : Nat) : ∀ {R : Int}, 0 ≤ R → R < 2 ^ 53 → e ≤ 2045 → ∃ g, 0 ≤ g ∧ g < 9218868437227405312 ∧ sz g = R * 2 ^ e := by
  induction e with
  | zero =>
    intro R h0 h1 _
    refine ⟨enc R 0, ?_, ?_, sz_enc h0 h1 (.inr rfl) (by decide)⟩
    · unfold enc; split <;> omega
    · unfold enc; split <;> omega
  | succ e ih =>
    intro R h0 h1 he
    by_cases h : 2 ^ 52 ≤ R
    · refine ⟨enc R (e + 1), ?_, ?_, sz_enc h0 h1 (.inl h) (by omega)⟩
      · unfold enc; split <;> omega
      · unfold enc; split <;> omega
    · obtain ⟨g, g0, g1, eg⟩ := ih (R := 2 * R) (by omega) (by omega) (by omega)
      refine ⟨g, g0, g1, ?_⟩
      rw [eg, p2add e 1]
      grind
/-- rounding a whole number scaled -/
theorem rsf_near {M p : Int} (hM : 0 < M) (h1 : -1074 ≤ p) (h2 : (intBits M : Int) + p ≤ 1024) : ∃ T B, 0 < B ∧ Near (rsf M p) T B ∧ T * 2 ^ 1074 = M * 2 ^ (p + 1074).toNat * B := by
  have hb : 1 ≤ intBits M := by obtain ⟨b, e, _⟩ := bits_lo hM; omega
  have ha : ¬ (M = 0 ∨ (intBits M : Int) + p ≤ -1075) := by omega
  by_cases hp : 0 ≤ p
  · refine ⟨M * 2 ^ p.toNat, 1, by decide, ?_, ?_⟩
    · unfold rsf
      rw [if_neg ha, if_neg (by omega), if_pos hp]
      exact rrf_near (shl_pos hM) (by decide)
    · rw [pow_split3 (show (p + 1074).toNat = p.toNat + 1074 by omega), Int.mul_one, Int.mul_assoc]
  · refine ⟨M, 1 * 2 ^ (-p).toNat, shl_pos (by decide), ?_, ?_⟩
    · unfold rsf
      rw [if_neg ha, if_neg (by omega), if_neg hp]
      exact rrf_near hM (shl_pos (by decide))
    · rw [Int.one_mul, Int.mul_assoc, ← p2add, show (p + 1074).toNat + (-p).toNat = 1074 by omega]
theorem rsf_exact {M p : Int} (hM : 0 ≤ M) (hM2 : M < 2 ^ 53) (h1 : -1074 ≤ p) (hp : p ≤ 971) (h2 : (intBits M : Int) + p ≤ 1024) : 0 ≤ rsf M p ∧ rsf M p < 9218868437227405312 ∧ sz (rsf M p) = M * 2 ^ (p + 1074).toNat := by
  rcases (show M = 0 ∨ 0 < M by omega) with h | h
  · have e : rsf M p = 0 := by unfold rsf; rw [if_pos (.inl h)]
    rw [e, h, Int.zero_mul]
    exact ⟨by decide, by decide, by unfold sz; decide⟩
  · obtain ⟨g, g0, g1, eg⟩ := rep (p + 1074).toNat hM hM2 (by omega)
    obtain ⟨T, B, hB, n, e⟩ := rsf_near h h1 h2
    rw [← eg] at e
    have u := near_unique hB n g0 g1 e
    rw [u]
    exact ⟨g0, g1, eg⟩
/-- the law of the rest -/
theorem sz_sign {g r : Int} (h0 : 0 ≤ r) (h1 : r < 2 ^ 63) : sz (g * 2 ^ 63 + r) = sz r := by
  unfold sz
  have e1 : (g * 2 ^ 63 + r) / 2 ^ 52 % 2048 = r / 2 ^ 52 % 2048 := by omega
  have e2 : (g * 2 ^ 63 + r) % 2 ^ 52 = r % 2 ^ 52 := by omega
  rw [e1, e2]
theorem sz_zero {n : Int} (h : n % 2 ^ 63 = 0) : sz n = 0 := by
  unfold sz
  rw [if_pos (by omega)]
  omega
theorem emod_le' {a b : Int} (h : 0 ≤ a) (hb : 0 < b) : a % b ≤ a := by
  have h1 := Int.mul_ediv_add_emod a b
  have h2 : 0 ≤ b * (a / b) := Int.mul_nonneg (by omega) (Int.ediv_nonneg h (by omega))
  omega
theorem rmd_fin {x y : Int} (hx0 : 0 ≤ x) (hx1 : x < 2 ^ 64) (kx : x % 2 ^ 63 < 9218868437227405312) (ky : y % 2 ^ 63 < 9218868437227405312) (ny : y % 2 ^ 63 ≠ 0) :
    ∃ r, rmd x y = x / 2 ^ 63 * 2 ^ 63 + r ∧ 0 ≤ r ∧ r < 9218868437227405312 ∧ sz r = sz x % sz y := by
  by_cases nx : x % 2 ^ 63 = 0
  · refine ⟨0, ?_, by decide, by decide, ?_⟩
    · unfold rmd
      rw [if_neg (by omega), if_pos (.inr nx)]
      omega
    · rw [sz_zero nx]
      simp
      exact sz_zero (by decide)
  · have hV := p2pos (pmin x y + 1074).toNat
    have hT := tp_pos (y := y) nx
    have hQ := tq_pos (x := x) ny
    have r0 := Int.emod_nonneg (tp x y) (show tq x y ≠ 0 by omega)
    have r1 := Int.emod_lt_of_pos (tp x y) hQ
    have r2 := emod_le' (Int.le_of_lt hT) hQ
    have g1 : -1074 ≤ pmin x y := by have := pw_ge x; have := pw_ge y; unfold pmin; split <;> omega
    have hpx : pw x ≤ 971 := by unfold pw; split <;> omega
    have hpy : pw y ≤ 971 := by unfold pw; split <;> omega
    have g2 : pmin x y ≤ 971 := by unfold pmin; split <;> omega
    have small : tp x y % tq x y < 2 ^ 53 := by
      by_cases hm : pw y < pw x
      · have e : tq x y = pm y := by
          unfold tq pmin
          rw [if_pos hm, Int.sub_self]
          exact Int.mul_one _
        have := pm_lt y
        omega
      · have e : tp x y = pm x := by
          unfold tp pmin
          rw [if_neg hm, Int.sub_self]
          exact Int.mul_one _
        have := pm_lt x
        omega
    have hb : (intBits (tp x y % tq x y) : Int) + pmin x y ≤ 1024 := by
      have := PySem.intBits_le_iff (m := 53) (x := tp x y % tq x y) |>.mpr (by omega)
      omega
    obtain ⟨f0, f1, fe⟩ := rsf_exact r0 small g1 g2 hb
    refine ⟨rsf (tp x y % tq x y) (pmin x y), rmd_r0 (by omega) (by omega) (by omega) (by omega) (by omega) (by omega), f0, f1, ?_⟩
    rw [fe, sz_tp x y, sz_tq x y, Int.mul_comm (tp x y) _, Int.mul_comm (tq x y) _, Int.mul_emod_mul_of_pos _ _ hV, Int.mul_comm]
section
variable {x y f : Int} (h : Hold (rmd x y = f))
include h
theorem rq_nan (c : 9218868437227405312 < x % 2 ^ 63 ∨ 9218868437227405312 < y % 2 ^ 63 ∨ x % 2 ^ 63 = 9218868437227405312 ∨ y % 2 ^ 63 = 0) : (f == 9221120237041090560) = true := by
  have e := h.out
  unfold rmd at e
  rw [if_pos c] at e
  rw [← e]
  rfl
theorem rq_x (c : ¬ (9218868437227405312 < x % 2 ^ 63 ∨ 9218868437227405312 < y % 2 ^ 63 ∨ x % 2 ^ 63 = 9218868437227405312 ∨ y % 2 ^ 63 = 0)) (d : y % 2 ^ 63 = 9218868437227405312) : (f == x) = true := by
  have e := h.out
  unfold rmd at e
  rw [if_neg c, if_pos (.inl d)] at e
  rw [← e]
  exact beq_self_eq_true x
variable (hx0 : 0 ≤ x) (hx1 : x < 2 ^ 64) (kx : x % 2 ^ 63 < 9218868437227405312) (ky : y % 2 ^ 63 < 9218868437227405312) (ny : y % 9223372036854775808 ≠ 0)
include hx0 hx1 kx ky ny
theorem rq_sign (e : (decide (9223372036854775808 ≤ f) != decide (9223372036854775808 ≤ x)) = true) {b : Bool} : b = true := by
  obtain ⟨r, er, r0, r1, _⟩ := rmd_fin hx0 hx1 kx ky (by omega)
  rw [h.out] at er
  exfalso
  have q : decide (9223372036854775808 ≤ f) = decide (9223372036854775808 ≤ x) := decide_eq_decide.mpr (by omega)
  rw [q] at e
  simp at e
theorem rq_kind (e : 9218868437227405312 < f % 2 ^ 63 ∨ f % 2 ^ 63 = 9218868437227405312) {b : Bool} : b = true := by
  obtain ⟨r, er, r0, r1, _⟩ := rmd_fin hx0 hx1 kx ky (by omega)
  rw [h.out] at er
  exfalso
  omega
theorem rq_size {zf zx zy : Int} (e1 : Hold (sz f = zf)) (e2 : Hold (sz x = zx)) (e3 : Hold (sz y = zy)) : (zf == zx % zy) = true := by
  obtain ⟨r, er, r0, r1, es⟩ := rmd_fin hx0 hx1 kx ky (by omega)
  rw [h.out] at er
  have e : sz f = sz r := by rw [er]; exact sz_sign r0 (by omega)
  rw [← e1.out, ← e2.out, ← e3.out, e, es]
  exact beq_self_eq_true _
end
end

/-! M9 -/
section
theorem near_cancel {r T B V : Int} (hB : 0 < B) (n : Near r T B) (e : T * 2 ^ 1074 = V * B) :
    0 ≤ r ∧ r ≤ 9218868437227405312 ∧ (r < 9218868437227405312 → 2 * V ≤ sz r + sz (r + 1) ∧ (2 * V = sz r + sz (r + 1) → r % 2 = 0)) ∧ (0 < r → sz r + sz (r - 1) ≤ 2 * V ∧ (sz r + sz (r - 1) = 2 * V → r % 2 = 0)) := by
  obtain ⟨r0, r1, u, d⟩ := n
  have e2 : 2 * T * 2 ^ 1074 = 2 * V * B := by rw [Int.mul_assoc, e, Int.mul_assoc]
  rw [e2] at u d
  exact ⟨r0, r1, fun q => ⟨Int.le_of_mul_le_mul_right (u q).1 hB, fun q2 => (u q).2 (by rw [q2])⟩, fun q => ⟨Int.le_of_mul_le_mul_right (d q).1 hB, fun q2 => (d q).2 (by rw [q2])⟩⟩
theorem sq_le {a b : Int} (ha : 0 ≤ a) (h : a ≤ b) : a * a ≤ b * b := Int.mul_le_mul h h ha (by omega)
theorem sq_lt {a b : Int} (ha : 0 ≤ a) (h : a < b) : a * a < b * b := by
  have h1 := mul_le_mul_l ha (Int.le_of_lt h)
  have h2 := Int.mul_lt_mul_of_pos_right h (show 0 < b by omega)
  omega
theorem hi_inexact {q N c h : Int} (hc : 0 < c) (hq : 0 ≤ q) (hN : N < (q + 1) * (q + 1)) (h1 : 2 * ((2 * q + 1) * c) ≤ 4 * c * h) : 16 * N * c * c < (4 * c * h) * (4 * c * h) := by
  have h2 : 2 * q + 1 ≤ 2 * h := by
    refine le_of_mul_l (c := 2 * c) (by omega) ?_
    have g1 : 2 * c * (2 * q + 1) = 2 * ((2 * q + 1) * c) := by grind
    have g2 : 2 * c * (2 * h) = 4 * c * h := by grind
    omega
  have h3 := sq_le (show 0 ≤ q + 1 by omega) (show q + 1 ≤ h by omega)
  have hcc : 0 < 16 * (c * c) := by have := Int.mul_pos hc hc; omega
  have m := mul_lt_mul_l hcc (show N < h * h by omega)
  grind
theorem lo_inexact {q N c l : Int} (hc : 0 < c) (hl : 0 ≤ l) (hN : q * q < N) (h1 : 4 * c * l ≤ 2 * ((2 * q + 1) * c)) : (4 * c * l) * (4 * c * l) < 16 * N * c * c := by
  have h2 : 2 * l ≤ 2 * q + 1 := by
    refine le_of_mul_l (c := 2 * c) (by omega) ?_
    have g1 : 2 * c * (2 * q + 1) = 2 * ((2 * q + 1) * c) := by grind
    have g2 : 2 * c * (2 * l) = 4 * c * l := by grind
    omega
  have h3 := sq_le hl (show l ≤ q by omega)
  have hcc : 0 < 16 * (c * c) := by have := Int.mul_pos hc hc; omega
  have m := mul_lt_mul_l hcc (show l * l < N by omega)
  grind
theorem sm_facts {x : Int} (nx : x % 2 ^ 63 ≠ 0) (kx : x % 2 ^ 63 < 9218868437227405312) : 1 ≤ sm x ∧ sm x < 2 ^ 54 ∧ -1074 ≤ sp x ∧ sp x ≤ 971 ∧ sp x % 2 = 0 ∧ sz x = sm x * 2 ^ (sp x + 1074).toNat := by
  have h1 := pm_pos nx
  have h2 := pm_lt x
  have h3 := pw_ge x
  have h4 : pw x ≤ 971 := by unfold pw; split <;> omega
  rw [sz_pm]
  unfold sm sp
  split
  · exact ⟨by omega, by omega, h3, h4, by omega, rfl⟩
  · refine ⟨by omega, by omega, by omega, by omega, by omega, ?_⟩
    rw [pow_split3 (show (pw x + 1074).toNat = 1 + (pw x - 1 + 1074).toNat by omega), Int.mul_assoc]
theorem pow_mul_lt {a b : Nat} {x y : Int} (hx : 0 < x) (h : x * 2 ^ a < y * 2 ^ b) (hyx : y ≤ x * 2 ^ 4) (hab : b + 4 ≤ a) : False := by
  have hb := p2pos b
  have e := pow_ge hab
  rw [p2add] at e
  have m1 := mul_le_mul_l (Int.le_of_lt hx) e
  have m2 := Int.mul_le_mul_of_nonneg_right hyx (Int.le_of_lt hb)
  have g : x * (2 ^ b * 2 ^ 4) = x * 2 ^ 4 * 2 ^ b := by rw [Int.mul_comm (2 ^ b), ← Int.mul_assoc]
  omega
theorem root_q {n q : Int} (h1 : 2 ^ 112 ≤ n) (h2 : n < 2 ^ 166) (h : IsRoot n q) : 2 ^ 56 ≤ q ∧ q < 2 ^ 83 := by
  obtain ⟨a, b, c⟩ := h
  constructor
  · by_cases k : q + 1 ≤ 2 ^ 56
    · exfalso
      have := sq_le (show 0 ≤ q + 1 by omega) k
      omega
    · omega
  · by_cases k : 2 ^ 83 ≤ q
    · exfalso
      have := sq_le (show (0 : Int) ≤ 2 ^ 83 by decide) k
      omega
    · omega
theorem sz_nonneg (n : Int) : 0 ≤ sz n := by
  rw [sz_pm]
  exact shl_nonneg (pm_nonneg n)
/-- the sums of neighbours are multiples of 4 c -/
theorem grid {r V : Int} {E : Nat} (h0 : 0 < r) (h1 : r < 9218868437227405312) (hV : 2 ^ 57 * 2 ^ E ≤ V) (hu : 2 * V ≤ sz r + sz (r + 1)) :
    (∃ h, sz r + sz (r + 1) = 4 * 2 ^ E * h) ∧ ∃ l, 0 ≤ l ∧ sz r + sz (r - 1) = 4 * 2 ^ E * l := by
  obtain ⟨w, e, rfl, w0, w1, hlo, he⟩ := enc_of (Int.le_of_lt h0) h1
  have hE := p2pos E
  rw [sz_enc w0 w1 hlo (by omega), enc_succ w0 w1 hlo he] at hu
  have hee : E + 5 ≤ e := by
    by_cases k : E + 5 ≤ e
    · exact k
    · exfalso
      have hp := p2pos e
      have m1 := Int.mul_le_mul_of_nonneg_right (show 2 * w + 1 ≤ 2 ^ 54 - 1 by omega) (Int.le_of_lt hp)
      have e1 := pow_ge (show e ≤ E + 4 by omega)
      rw [p2add] at e1
      have g : w * 2 ^ e + (w + 1) * 2 ^ e = (2 * w + 1) * 2 ^ e := by grind
      rw [g] at hu
      generalize (2 : Int) ^ e = P at *
      generalize (2 : Int) ^ E = C at *
      omega
  rw [sz_enc w0 w1 hlo (by omega), enc_succ w0 w1 hlo he]
  constructor
  · refine ⟨(2 * w + 1) * 2 ^ (e - E - 2), ?_⟩
    rw [pow_split3 (show e = E + (2 + (e - E - 2)) by omega), p2add 2]
    generalize (2 : Int) ^ (e - E - 2) = P
    grind
  · by_cases hw : 2 ^ 52 < w ∨ e = 0
    · refine ⟨(2 * w - 1) * 2 ^ (e - E - 2), shl_nonneg (by omega), ?_⟩
      rw [enc_pred (by omega) w1 (by omega) hw, pow_split3 (show e = E + (2 + (e - E - 2)) by omega), p2add 2]
      generalize (2 : Int) ^ (e - E - 2) = P
      grind
    · obtain ⟨e', e1⟩ : ∃ e', e = e' + 1 := ⟨e - 1, by omega⟩
      have hw2 : w = 2 ^ 52 := by omega
      refine ⟨(2 ^ 54 - 1) * 2 ^ (e' - E - 2), shl_nonneg (by decide), ?_⟩
      rw [hw2, e1, enc_pred2 (by omega), p2add e' 1, pow_split3 (show e' = E + (2 + (e' - E - 2)) by omega), p2add 2]
      generalize (2 : Int) ^ (e' - E - 2) = P
      grind
theorem truth_is {m : Int} {a b : Nat} (h : a + 1074 + 2 = 4 + 112 + (b + b)) : 4 * (m * 2 ^ a) * 2 ^ 1074 = 16 * (m * 2 ^ 112) * 2 ^ b * 2 ^ b := by
  have e : (2 : Int) ^ (a + 1074 + 2) = 2 ^ (4 + 112 + (b + b)) := by rw [h]
  rw [p2add, p2add, p2add, p2add, p2add b b] at e
  generalize (2 : Int) ^ 1074 = C at *
  generalize (2 : Int) ^ a = A at *
  generalize (2 : Int) ^ b = B at *
  generalize (2 : Int) ^ 112 = D at *
  have e2 : A * C * 4 = 16 * D * (B * B) := by
    have q : (2 : Int) ^ 2 = 4 := rfl
    have q2 : (2 : Int) ^ 4 = 16 := rfl
    rw [q, q2] at e
    exact e
  grind
/-- the law of the root, plain -/
theorem root_law {x r : Int} (hx0 : 0 ≤ x) (hs : SqR x r) (nx : x % 2 ^ 63 ≠ 0) (kx : x % 2 ^ 63 < 9218868437227405312) (hp : x < 2 ^ 63) :
    0 < r ∧ r < 9218868437227405312 ∧ (sz r + sz (r - 1)) * (sz r + sz (r - 1)) ≤ 4 * sz x * 2 ^ 1074 ∧ 4 * sz x * 2 ^ 1074 ≤ (sz r + sz (r + 1)) * (sz r + sz (r + 1)) ∧
    (r % 2 ≠ 0 → (sz r + sz (r - 1)) * (sz r + sz (r - 1)) < 4 * sz x * 2 ^ 1074 ∧ 4 * sz x * 2 ^ 1074 < (sz r + sz (r + 1)) * (sz r + sz (r + 1))) := by
  unfold SqR at hs
  rw [if_neg (by omega), if_neg (by omega), if_neg (by omega)] at hs
  obtain ⟨q, hq, er⟩ := hs
  obtain ⟨s1, s2, s3, s4, s5, s6⟩ := sm_facts nx kx
  obtain ⟨q1, q2⟩ := root_q (by omega) (by omega) hq
  obtain ⟨_, b1, b2⟩ := hq
  have hix : (0 : Int) ≤ (if q * q < sm x * 2 ^ 112 then 1 else 0) ∧ (if q * q < sm x * 2 ^ 112 then (1 : Int) else 0) ≤ 1 := by split <;> omega
  have hM1 : 2 ^ 57 ≤ 2 * q + (if q * q < sm x * 2 ^ 112 then 1 else 0) := by omega
  have hM2 : 2 * q + (if q * q < sm x * 2 ^ 112 then (1 : Int) else 0) < 2 ^ 85 := by omega
  have hbits := PySem.intBits_le_iff (m := 85) (x := 2 * q + (if q * q < sm x * 2 ^ 112 then 1 else 0)) |>.mpr (by omega)
  obtain ⟨T, B, hB, n, eT⟩ := rsf_near (M := 2 * q + (if q * q < sm x * 2 ^ 112 then 1 else 0)) (p := sp x / 2 - 56 - 1) (by omega) (by omega) (by omega)
  have er2 : r = rsf (2 * q + (if q * q < sm x * 2 ^ 112 then 1 else 0)) (sp x / 2 - 56 - 1) := by omega
  rw [← er2] at n
  obtain ⟨r0, r1, u, d⟩ := near_cancel hB n eT
  have ht := truth_is (m := sm x) (a := (sp x + 1074).toNat) (b := (sp x / 2 - 56 - 1 + 1074).toNat) (by omega)
  rw [← s6] at ht
  have hEu : (sp x / 2 - 56 - 1 + 1074).toNat ≤ 1510 := by omega
  rw [ht]
  generalize (sp x / 2 - 56 - 1 + 1074).toNat = E at *
  have hc := p2pos E
  have hV : 2 ^ 57 * 2 ^ E ≤ (2 * q + (if q * q < sm x * 2 ^ 112 then 1 else 0)) * 2 ^ E := Int.mul_le_mul_of_nonneg_right hM1 (Int.le_of_lt hc)
  have hV2 : (2 * q + (if q * q < sm x * 2 ^ 112 then 1 else 0)) * 2 ^ E < 2 ^ 85 * 2 ^ E := Int.mul_lt_mul_of_pos_right hM2 hc
  have hr0 : 0 < r := by
    by_cases k : 0 < r
    · exact k
    · exfalso
      have e0 : r = 0 := by omega
      have u1 := (u (by omega)).1
      rw [e0] at u1
      have z0 : sz 0 = 0 := sz_zero (by decide)
      have z1 : sz (0 + 1) = 1 := by unfold sz; decide
      omega
  have hr1 : r < 9218868437227405312 := by
    by_cases k : r < 9218868437227405312
    · exact k
    · exfalso
      have e0 : r = 9218868437227405312 := by omega
      have d1 := (d hr0).1
      rw [e0, sz_inf] at d1
      have nn := sz_nonneg (9218868437227405312 - 1)
      have e3 := pow_ge (show 86 + E ≤ 52 + 2046 by omega)
      rw [p2add 86 E, p2add 52 2046] at e3
      generalize (2 : Int) ^ 2046 = C at *
      generalize (2 : Int) ^ E = D at *
      omega
  obtain ⟨u1, u2⟩ := u hr1
  obtain ⟨d1, d2⟩ := d hr0
  obtain ⟨⟨h, eh⟩, l, l0, el⟩ := grid hr0 hr1 hV u1
  refine ⟨hr0, hr1, ?_⟩
  by_cases hi : q * q < sm x * 2 ^ 112
  · rw [if_pos hi] at u1 d1
    rw [eh] at u1 ⊢
    rw [el] at d1 ⊢
    have a1 := hi_inexact hc (by omega) b2 u1
    have a2 := lo_inexact hc l0 hi d1
    exact ⟨Int.le_of_lt a2, Int.le_of_lt a1, fun _ => ⟨a2, a1⟩⟩
  · rw [if_neg hi] at u1 d1 u2 d2
    have hN : sm x * 2 ^ 112 = q * q := by omega
    rw [hN]
    have g : 16 * (q * q) * 2 ^ E * 2 ^ E = (2 * ((2 * q + 0) * 2 ^ E)) * (2 * ((2 * q + 0) * 2 ^ E)) := by grind
    rw [g]
    have nn1 := sz_nonneg r
    have nn2 := sz_nonneg (r - 1)
    have vv : 0 ≤ 2 * ((2 * q + 0) * 2 ^ E) := by
      have := Int.mul_nonneg (show 0 ≤ 2 * q + 0 by omega) (Int.le_of_lt hc)
      omega
    refine ⟨sq_le (by omega) d1, sq_le vv u1, fun odd => ⟨sq_lt (by omega) ?_, sq_lt vv ?_⟩⟩
    · rcases Int.lt_or_eq_of_le d1 with k | k
      · exact k
      · exact absurd (d2 k) odd
    · rcases Int.lt_or_eq_of_le u1 with k | k
      · exact k
      · exact absurd (u2 k) odd
theorem lnz {x : Int} (h : x % 9223372036854775808 ≠ 0) : x % 2 ^ 63 ≠ 0 := by omega
theorem lt63 {x : Int} (h : x % 9223372036854775808 ≠ 0) (hp : ¬ 9223372036854775808 < x) : x < 2 ^ 63 := by omega
theorem div1 {x : Int} (h : 9223372036854775808 < x) (h1 : x < 2 ^ 64) : x / 2 ^ 63 = 1 := by omega
theorem ndiv1 {x : Int} (hp : ¬ 9223372036854775808 < x) (n : ¬ x % 2 ^ 63 = 0) : ¬ x / 2 ^ 63 = 1 := by omega
section
variable {x f : Int} (h : Hold (SqR x f)) (hx0 : 0 ≤ x) (hx1 : x < 2 ^ 64)
include h hx0 hx1
theorem rt_nan (hcan : 9218868437227405312 < x % 2 ^ 63 → x = 9221120237041090560) (c : 9218868437227405312 < x % 2 ^ 63 ∨ 9223372036854775808 < x) (c0 : x % 2 ^ 63 = 0 → ¬ 9223372036854775808 < x) : (f == 9221120237041090560) = true := by
  have e := h.out
  unfold SqR at e
  by_cases k : 9218868437227405312 < x % 2 ^ 63
  · rw [if_pos (.inl k)] at e
    rw [e, hcan k]
    rfl
  · have c' := c.resolve_left k
    rw [if_neg (fun q => q.elim k (fun z => c0 z c')), if_pos (div1 c' hx1)] at e
    rw [e]
    rfl
theorem rt_x (c : ¬ 9218868437227405312 < x % 2 ^ 63) (d : x % 2 ^ 63 = 9218868437227405312 ∨ x % 2 ^ 63 = 0) (hp : ¬ 9223372036854775808 < x) : (f == x) = true := by
  have e := h.out
  unfold SqR at e
  by_cases k : x % 2 ^ 63 = 0
  · rw [if_pos (.inr k)] at e
    rw [e]
    exact beq_self_eq_true x
  · rw [if_neg (fun q => q.elim c k), if_neg (ndiv1 hp k), if_pos (d.resolve_right k)] at e
    rw [e]
    exact beq_self_eq_true x
variable (nx : x % 9223372036854775808 ≠ 0) (kx : x % 2 ^ 63 < 9218868437227405312) (hp : ¬ 9223372036854775808 < x)
include nx kx hp
theorem rt_out (c : f = 0 ∨ 9218868437227405312 ≤ f) {b : Bool} : b = true := by
  obtain ⟨a, b, _⟩ := root_law hx0 h.out (lnz nx) kx (lt63 nx hp)
  exact c.elim (fun q => absurd a (by rw [q]; decide)) (fun q => absurd b (Int.not_lt.mpr q))
theorem rt_in {c zx z1 z2 z3 z4 : Int} (hc : Hold ((2 : Int) ^ 1074 = c)) (ex : Hold (sz x = zx)) (e1 : Hold (sz f = z1)) (e2 : Hold (sz (f + 1) = z2)) (e3 : Hold (sz f = z3)) (e4 : Hold (sz (f - 1) = z4)) :
    (z3 + z4) * (z3 + z4) ≤ 4 * zx * c ∧ 4 * zx * c ≤ (z1 + z2) * (z1 + z2) ∧ (f % 2 ≠ 0 → (z3 + z4) * (z3 + z4) < 4 * zx * c ∧ 4 * zx * c < (z1 + z2) * (z1 + z2)) := by
  obtain ⟨_, _, q⟩ := root_law hx0 h.out (lnz nx) kx (lt63 nx hp)
  rw [hc.out, ex.out, e2.out, e4.out] at q
  have e5 : z1 = z3 := e1.out.symm.trans e3.out
  rw [e1.out] at q
  rw [← e5]
  exact q
end
end

/-! M10 -/
section
def menu : List Int := [0, 9223372036854775808, 4607182418800017408, 13830554455654793216, 9218868437227405312, 18442240474082181120, 9221120237041090560, 1, 9223372036854775809, 9218868437227405311, 4503599627370495, 4503599627370496, 4845873199050653696, 4591870180066957722, 4602678819172646912, 4746794007248502784, 13970166044105375744, 4751297606873776128]
def CellOk (r : Int) : Prop := 0 ≤ r ∧ intBits r ≤ 1048577
def Dbl (x : Int) : Prop := 0 ≤ x ∧ x < 2 ^ 64 ∧ (9218868437227405312 < x % 2 ^ 63 → x = 9221120237041090560)
theorem cell_a {ns : List Int} {i : Int} (h0 : 0 ≤ i) (h1 : i < (ns.length : Int)) (hb : ∀ n ∈ ns, intBits n ≤ 1048576) : CellOk (if ns.getD i.toNat 0 < 0 then -ns.getD i.toNat 0 else ns.getD i.toNat 0) := by
  have hm : ns.getD i.toNat 0 ∈ ns := by
    have h : i.toNat < ns.length := by omega
    rw [List.getD_eq_getElem?_getD, List.getElem?_eq_getElem h]
    exact List.getElem_mem h
  have b := hb _ hm
  generalize ns.getD i.toNat 0 = x at *
  unfold CellOk
  split
  · exact ⟨by omega, Nat.le_trans (bits_neg b) (by decide)⟩
  · exact ⟨by omega, Nat.le_trans b (by decide)⟩
theorem cell_b {f : Int} (h0 : 0 ≤ f) (h1 : f < 1000003) : CellOk (f * f + f.fdiv 3) := by
  rw [fdv (by decide)]
  have h2 := Int.mul_nonneg h0 h0
  have h3 := Int.mul_le_mul (show f ≤ 1000003 by omega) (show f ≤ 1000003 by omega) h0 (by decide)
  exact ⟨by omega, Nat.le_trans (PySem.intBits_le_iff (m := 64).mpr (by omega)) (by decide)⟩
theorem rest_ok {x r : Int} (h : CellOk x) (e : x / 4 = r) : 0 ≤ r ∧ intBits r ≤ 1048577 := by
  subst e
  have h0 := h.1
  exact ⟨by omega, bits_le_of (by omega) (show x / 4 ≤ x by omega) h.2⟩
theorem pow_bits {k : Int} {n : Nat} (hk : k ≤ n) : intBits ((2 : Int) ^ k.toNat) ≤ 1 + n := by
  have := bits_shl (b := 1) (m := 1) (by decide) hk
  rw [Int.one_mul] at this
  exact this
theorem noPl_pow {x k : Int} (hk : k ≤ 100) : Builtin.divisionGoesByPylong x (2 ^ k.toNat) = false := noPl (pow_bits hk) (by decide)
theorem mulok_dp {x k : Int} (h0 : 0 ≤ x) (h1 : x < 2 ^ 52) (hk : k ≤ 100) : IntMulOk (x / 2 ^ k.toNat) (2 ^ k.toNat) := by
  have hp := p2pos k.toNat
  have hq : 0 ≤ x / 2 ^ k.toNat := Int.ediv_nonneg h0 (by omega)
  have hq2 : x / 2 ^ k.toNat ≤ x := Int.ediv_le_self _ h0
  exact mulOk_of_bits (bits_le_of hq hq2 (PySem.intBits_le_iff (m := 52) (x := x) |>.mpr (by omega))) (pow_bits hk) (by decide)
theorem dbl_1 {r : Int} : Dbl (r % 2 * 9223372036854775808 + (1019 + r / 2 % 60) * 4503599627370496 + r * 2783377641436327 % 4503599627370496 / 2 ^ (r % 50).toNat * 2 ^ (r % 50).toNat) := by
  have hp := p2pos (r % 50).toNat
  have hb := ediv_bounds (r * 2783377641436327 % 4503599627370496) hp
  have h0 : 0 ≤ r * 2783377641436327 % 4503599627370496 := Int.emod_nonneg _ (by decide)
  have h1 : r * 2783377641436327 % 4503599627370496 < 4503599627370496 := Int.emod_lt_of_pos _ (by decide)
  have h2 : 0 ≤ r * 2783377641436327 % 4503599627370496 / 2 ^ (r % 50).toNat * 2 ^ (r % 50).toNat := Int.mul_nonneg (Int.ediv_nonneg h0 (by omega)) (by omega)
  rw [Int.mul_comm] at hb
  generalize r * 2783377641436327 % 4503599627370496 / 2 ^ (r % 50).toNat * 2 ^ (r % 50).toNat = y at *
  have hy : y < 4503599627370496 := by omega
  have hb0 : 0 ≤ r / 2 % 60 ∧ r / 2 % 60 < 60 := by omega
  have ha : r % 2 = 0 ∨ r % 2 = 1 := by omega
  generalize r / 2 % 60 = b at *
  generalize r % 2 = a at *
  clear hb h0 h1
  unfold Dbl
  rcases ha with ha | ha <;> subst ha <;> omega
theorem dbl_2 {f : Int} (h0 : 0 ≤ f) (h1 : f < 2 ^ 64) (h : ¬ 9218868437227405312 < f % 9223372036854775808) : Dbl f := by unfold Dbl; omega
theorem dbl_n : Dbl 9221120237041090560 := by unfold Dbl; decide
theorem dbl_0 {i : Int} (h0 : 0 ≤ i) (h1 : i < 18) : Dbl (menu.getD i.toNat 0) := by
  obtain ⟨k, rfl⟩ : ∃ k : Nat, i = k := ⟨i.toNat, by omega⟩
  have hk : k < 18 := by omega
  clear h0 h1
  show Dbl (_ : Int)
  rw [Int.toNat_natCast]
  have all : ∀ k : Fin 18, Dbl (menu.getD k.val 0) := by
    unfold Dbl menu
    decide
  exact all ⟨k, hk⟩
theorem dbl_f0 {i : Int} (h0 : 0 ≤ i) (h1 : i < (menu.length : Int)) : Dbl (menu.getD i.toNat 0) := dbl_0 h0 h1
theorem dbl_e {a : Int} (h : ¬ 9218868437227405312 < a % 18446744073709551616 % 9223372036854775808) : Dbl (a % 18446744073709551616) :=
  dbl_2 (Int.emod_nonneg _ (by decide)) (Int.emod_lt_of_pos _ (by decide)) h
theorem dbl_m {i : Int} : Dbl (menu.getD (i % 18).toNat 0) := dbl_0 (Int.emod_nonneg _ (by decide)) (Int.emod_lt_of_pos _ (by decide))
/-- a list of ints of the ledger's, as the law cuts it -/
def ScrAt (l : Addr) (news : List (Addr × Obj)) : Prop := ∃ vs ns nn, (l, W.listOf (List.toArray vs) nn) ∈ news ∧ IntsAre vs ns ∧ ns.length ≤ 24 ∧ ∀ n ∈ ns, intBits n ≤ 1048576
theorem ScrAt.cons {l : Addr} {p : Addr × Obj} {news : List (Addr × Obj)} (h : ScrAt l news) : ScrAt l (p :: news) := by
  obtain ⟨vs, ns, nn, a, b⟩ := h
  exact ⟨vs, ns, nn, .tail _ a, b⟩
theorem scr_mk {l : Addr} {ws : List Value} {ns : List Int} {nn : Nat} {news : List (Addr × Obj)} (hm : (l, W.listOf ws.toArray nn) ∈ news) (hi : IntsAre ws (ns.take 24)) (hl : PyData.layable0 (.list (ns.map .int)) = true) : ScrAt l news :=
  ⟨ws, ns.take 24, nn, hm, hi, by rw [List.length_take]; omega, fun _ hn => PySem.PyData.bits_item_of_ints hl (List.mem_of_mem_take hn)⟩
theorem menu_2a : (0 : Int) ≤ menu.getD (Int.toNat 2) 0 := by decide
theorem menu_2b : menu.getD (Int.toNat 2) 0 < 2 ^ 64 := by decide
end

/-! M11 -/
section
/-! the facts of the walks, in the very words of their contexts -/
theorem lz {x : Int} (h : x % 9223372036854775808 = 0) : x % 2 ^ 63 = 0 := by omega
theorem k_2 {x k : Int} (h : k = 2) (e : Hold (kd x = k)) : 9218868437227405312 < x % 2 ^ 63 := by
  rcases kd_cases x with ⟨_, q⟩ | ⟨q, _⟩ | ⟨q, _⟩
  · exact q
  · rw [e.out, h] at q; cases q
  · rw [e.out, h] at q; cases q
theorem k_1 {x k : Int} (h : k = 1) (e : Hold (kd x = k)) : x % 2 ^ 63 = 9218868437227405312 := by
  rcases kd_cases x with ⟨q, _⟩ | ⟨_, q⟩ | ⟨q, _⟩
  · rw [e.out, h] at q; cases q
  · exact q
  · rw [e.out, h] at q; cases q
theorem k_n2 {x k : Int} (h : k ≠ 2) (e : Hold (kd x = k)) : ¬ 9218868437227405312 < x % 2 ^ 63 := fun q => by
  have e' := e.out
  unfold kd at e'
  rw [if_pos q] at e'
  exact h e'.symm
theorem k_n1 {x k l : Int} (h2 : k ≠ 2) (e : Hold (kd x = k)) (h : l ≠ 1) (e' : Hold (kd x = l)) : x % 2 ^ 63 < 9218868437227405312 := by
  rcases kd_cases x with ⟨q, _⟩ | ⟨q, _⟩ | ⟨_, q⟩
  · exact absurd (e.out.symm.trans q) h2
  · exact absurd (e'.out.symm.trans q) h
  · exact q
theorem k_n0 {x k : Int} (e : Hold (kd x = k)) (h : k ≠ 0) : 9218868437227405312 < x % 2 ^ 63 ∨ x % 2 ^ 63 = 9218868437227405312 := by
  rcases kd_cases x with ⟨_, q⟩ | ⟨_, q⟩ | ⟨q, _⟩
  · exact .inl q
  · exact .inr q
  · exact absurd (e.out.symm.trans q) h
theorem any_t {k l : Int} (h : ([k, l].any fun x => x == 2) = true) : k = 2 ∨ l = 2 := by simpa using h
theorem any_f {k l : Int} (h : ([k, l].any fun x => x == 2) = false) : k ≠ 2 ∧ l ≠ 2 := by simpa using h
theorem both_t {k l : Int} (h : (k == 1 && l == 1) = true) : k = 1 ∧ l = 1 := by simpa using h
theorem both_f {k l : Int} (h : (k == 1 && l == 1) = false) : ¬ (k = 1 ∧ l = 1) := by simpa using h
theorem c_any {x y kx ky : Int} (q : ([kx, ky].any fun x => x == 2) = true) (ex : Hold (kd x = kx)) (ey : Hold (kd y = ky)) : 9218868437227405312 < x % 2 ^ 63 ∨ 9218868437227405312 < y % 2 ^ 63 :=
  (any_t q).imp (fun h => k_2 h ex) (fun h => k_2 h ey)
theorem k_is1 {x k : Int} (e : Hold (kd x = k)) (h : x % 2 ^ 63 = 9218868437227405312) : k = 1 := by
  rw [← e.out]; unfold kd; rw [h, if_neg (by decide), if_pos rfl]
theorem c_no {x y kx ky : Int} (q : ([kx, ky].any fun x => x == 2) = false) (ex : Hold (kd x = kx)) (ey : Hold (kd y = ky)) (q2 : (kx == 1 && ky == 1) = false) (n : x % 9223372036854775808 ≠ 0 ∨ y % 9223372036854775808 ≠ 0) :
    ¬ (9218868437227405312 < x % 2 ^ 63 ∨ 9218868437227405312 < y % 2 ^ 63 ∨ (x % 2 ^ 63 = 9218868437227405312 ∧ y % 2 ^ 63 = 9218868437227405312) ∨ (x % 2 ^ 63 = 0 ∧ y % 2 ^ 63 = 0)) :=
  no4 (fun h => h.elim (k_n2 (any_f q).1 ex) (k_n2 (any_f q).2 ey)) (fun h => both_f q2 ⟨k_is1 ex h.1, k_is1 ey h.2⟩) (fun h => n.elim (fun a => lnz a h.1) (fun a => lnz a h.2))
theorem fin_x {x kx ky : Int} (q : ([kx, ky].any fun x => x == 2) = false) (ex : Hold (kd x = kx)) (n : kx ≠ 1) : x % 2 ^ 63 < 9218868437227405312 := k_n1 (any_f q).1 ex n ex
theorem fin_y {y kx ky : Int} (q : ([kx, ky].any fun x => x == 2) = false) (ey : Hold (kd y = ky)) (n : ky ≠ 1) : y % 2 ^ 63 < 9218868437227405312 := k_n1 (any_f q).2 ey n ey
theorem c_rno {x y kx ky : Int} (q : ([kx, ky].any fun x => x == 2) = false) (ex : Hold (kd x = kx)) (ey : Hold (kd y = ky)) (q2 : kx ≠ 1) (n : y % 9223372036854775808 ≠ 0) : ¬ (9218868437227405312 < x % 2 ^ 63 ∨ 9218868437227405312 < y % 2 ^ 63 ∨ x % 2 ^ 63 = 9218868437227405312 ∨ y % 2 ^ 63 = 0) :=
  no4 (fun h => h.elim (k_n2 (any_f q).1 ex) (k_n2 (any_f q).2 ey)) (fun h => q2 (k_is1 ex h)) (lnz n)
theorem zz (x : Int) {b : Bool} (h : x % 9223372036854775808 = 0) (n : x % 9223372036854775808 ≠ 0) : b = true := absurd h n
theorem fpos {f : Int} (h : ¬ f % 9223372036854775808 < 9218868437227405312) : 0 < f % 9223372036854775808 := by omega
theorem neg_c0 {x : Int} (h1 : x < 2 ^ 64) : x % 2 ^ 63 = 0 → ¬ 9223372036854775808 < x := by omega
end

/-! W1 -/
section
variable {w : World} {mean : ExcName → Option Value} {mg mb : Str → Option Value}

theorem is_negative_tells (n : Int) (t : Tok) : TellsG w mean mg mb 35 1 [.int n t] (BackB (decide (n / 2 ^ 63 = 1))) := by
  unfold TellsG; k_fill
  intro dp un gd cn cs a ccd cl outer A₀ base h₀ L m news s Q E B F X N T hk hd hu hret
  refine wpAny_call ?_
  k_dflt cell_enter
  k_steps
  all_goals exact backB (Q := Q) (s := s) hret (by rw [shr]; rfl) (by k_asm) (by first | k_asm | (refine' cb_drop ?cbN ?cbS; (case cbN => assumption); (case cbS => kcj_all)))
theorem is_nan_tells (n : Int) (t : Tok) : TellsG w mean mg mb 42 1 [.int n t] (BackB (decide (9218868437227405312 < n % 2 ^ 63))) := by
  unfold TellsG; k_fill
  intro dp un gd cn cs a ccd cl outer A₀ base h₀ L m news s Q E B F X N T hk hd hu hret
  refine wpAny_call ?_
  k_dflt cell_enter
  k_steps
  all_goals exact backB (Q := Q) (s := s) hret (by rw [mask63]) (by k_asm) (by first | k_asm | (refine' cb_drop ?cbN ?cbS; (case cbN => assumption); (case cbS => kcj_all)))
theorem is_inf_tells (n : Int) (t : Tok) : TellsG w mean mg mb 49 1 [.int n t] (BackB (decide (n % 2 ^ 63 = 9218868437227405312))) := by
  unfold TellsG; k_fill
  intro dp un gd cn cs a ccd cl outer A₀ base h₀ L m news s Q E B F X N T hk hd hu hret
  refine wpAny_call ?_
  k_dflt cell_enter
  k_steps
  all_goals exact backB (Q := Q) (s := s) hret (by rw [mask63]; rfl) (by k_asm) (by first | k_asm | (refine' cb_drop ?cbN ?cbS; (case cbN => assumption); (case cbS => kcj_all)))
theorem is_zero_tells (n : Int) (t : Tok) : TellsG w mean mg mb 56 1 [.int n t] (BackB (decide (n % 2 ^ 63 = 0))) := by
  unfold TellsG; k_fill
  intro dp un gd cn cs a ccd cl outer A₀ base h₀ L m news s Q E B F X N T hk hd hu hret
  refine wpAny_call ?_
  k_dflt cell_enter
  k_steps
  all_goals exact backB (Q := Q) (s := s) hret (by rw [mask63]; rfl) (by k_asm) (by first | k_asm | (refine' cb_drop ?cbN ?cbS; (case cbN => assumption); (case cbS => kcj_all)))
theorem signed_tells (g n : Int) (t u : Tok) (h : g = 0 ∨ g = 1) : TellsG w mean mg mb 63 1 [.int g u, .int n t] (BackI (g * 2 ^ 63 + n % 2 ^ 63)) := by
  unfold TellsG; k_fill
  intro dp un gd cn cs a ccd cl outer A₀ base h₀ L m news s Q E B F X N T hk hd hu hret
  refine wpAny_call ?_
  k_dflt cell_enter
  k_steps
  all_goals exact backI (Q := Q) (s := s) hret (signed_v h) (by k_asm) (by first | k_asm | (refine' cb_drop ?cbN ?cbS; (case cbN => assumption); (case cbS => kcj_all)))
theorem pack_tells (g e f : Int) (t u v : Tok) (h : g = 0 ∨ g = 1) (h0 : 0 ≤ e) (h1 : e < 2048) (hf : 0 ≤ f) (hf2 : f < 2 ^ 52) : TellsG w mean mg mb 28 1 [.int g u, .int e t, .int f v] (BackI (g * 2 ^ 63 + (e * 2 ^ 52 + f))) := by
  unfold TellsG; k_fill
  intro dp un gd cn cs a ccd cl outer A₀ base h₀ L m news s Q E B F X N T hk hd hu hret
  refine wpAny_call ?_
  k_dflt cell_enter
  k_steps
  all_goals exact backI (Q := Q) (s := s) hret (pack_v h h0 h1 hf hf2) (by k_asm) (by first | k_asm | (refine' cb_drop ?cbN ?cbS; (case cbN => assumption); (case cbS => kcj_all)))
theorem parts_tells (n : Int) (t : Tok) : TellsG w mean mg mb 70 1 [.int n t] (BackT (n / 2 ^ 63) (pm n) (pw n)) := by
  unfold TellsG; k_fill
  intro dp un gd cn cs a ccd cl outer A₀ base h₀ L m news s Q E B F X N T hk hd hu hret
  refine wpAny_call ?_
  k_dflt cell_enter
  k_steps

  all_goals exact backT (Q := Q) (s := s) hret (shr n 63) (by first | exact pm_0 (by assumption) | exact pm_1 (by assumption)) (by first | exact pw_0 (by assumption) | exact pw_1 (by assumption)) (by k_asm) (by k_asm) (fun p hp => .tail _ hp) (by first | assumption | exact And.right (by assumption))
theorem law_kind_tells (n : Int) (t : Tok) : TellsG w mean mg mb 161 1 [.int n t] (BackI (kd n)) := by
  unfold TellsG; k_fill
  intro dp un gd cn cs a ccd cl outer A₀ base h₀ L m news s Q E B F X N T hk hd hu hret
  refine wpAny_call ?_
  k_dflt cell_enter
  k_steps
  all_goals exact backI (Q := Q) (s := s) hret (by first | exact kd_2 (by assumption) | exact kd_1 (by assumption) | exact kd_0 (by assumption) (by assumption)) (by k_asm) (by first | k_asm | (refine' cb_drop ?cbN ?cbS; (case cbN => assumption); (case cbS => kcj_all)))
theorem law_size_tells (n : Int) (t : Tok) : TellsG w mean mg mb 154 1 [.int n t] (BackI (sz n)) := by
  unfold TellsG; k_fill
  intro dp un gd cn cs a ccd cl outer A₀ base h₀ L m news s Q E B F X N T hk hd hu hret
  refine wpAny_call ?_
  k_dflt cell_enter
  k_steps
  all_goals exact backI (Q := Q) (s := s) hret (by first | exact sz_0 (by assumption) | exact sz_1 (by assumption)) (by k_asm) (by first | k_asm | (refine' cb_drop ?cbN ?cbS; (case cbN => assumption); (case cbS => kcj_all)))
end

/-! W2 -/
section
variable {w : World} {mean : ExcName → Option Value} {mg mb : Str → Option Value}

theorem width_tells (n : Int) (t : Tok) (h0 : 0 ≤ n) : TellsG w mean mg mb 21 1 [.int n t] (BackI (intBits n)) := by
  unfold TellsG; k_fill
  intro dp un gd cn cs a ccd cl outer A₀ base h₀ L m news s Q E B F X N T hk hd hu hret
  refine wpAny_call ?_
  k_dflt cell_enter
  k_with_none
  k_with "my exec While" => (k_here; k_extra "my while")
  k_with "my while" => k_while (fun _ x y => 0 ≤ x ∧ 0 ≤ y ∧ (intBits n : Int) = intBits x + y) (fun _ x _ => x.toNat) "n" "many"
  k_with "state" => first | exact wid_st64 (by assumption) (by assumption) (by assumption) (by assumption) | exact wid_st1 (by assumption) (by assumption) (by assumption) (by assumption)
  k_with "measure" => first | exact wid_m64 (by assumption) | exact wid_m1 (by assumption)
  k_steps
  all_goals k_with_none
  all_goals exact backI (Q := Q) (s := s) hret (wid_end (by assumption) (by assumption) (by assumption)) (by k_asm) (by first | k_asm | (refine' cb_drop ?cbN ?cbS; (case cbN => assumption); (case cbS => kcj_all)))
end

/-! W3 -/
section
variable {w : World} {mean : ExcName → Option Value} {mg mb : Str → Option Value}

theorem quotient_tells (top bottom power : Int) (t u v : Tok) (hb : 0 < bottom) (h1 : intBits top ≤ 4000) (h2 : intBits bottom ≤ 4000) (h3 : -4000 ≤ power) (h4 : power ≤ 4000) :
    TellsG w mean mg mb 77 1 [.int top t, .int bottom u, .int power v] (BackT (qt top power / qb bottom power) (qt top power % qb bottom power) (qb bottom power)) := by
  unfold TellsG; k_fill
  intro dp un gd cn cs a ccd cl outer A₀ base h₀ L m news s Q E B F X N T hk hd hu hret
  refine wpAny_call ?_
  k_dflt cell_enter
  k_with_none
  k_with "my binaryOp FloorDiv int int" => (k_here; (with_reducible refine floordiv_int ?kne ?_ (Or.inl ?kpl)); (case kne => first | omega | exact ne_shift (by omega)); (case kpl => first | exact noPl_shl (by assumption) (by omega) | exact noPl (by assumption) (by decide)))
  k_with "my binaryOp Mod int int" => (k_here; (with_reducible refine mod_int' ?kne ?_); (case kne => first | omega | exact ne_shift (by omega)))
  k_steps
  all_goals exact backT (Q := Q) (s := s) hret (by first | exact (q_p hb (by assumption)).1 | exact (q_n hb (by assumption)).1) (by first | exact (q_p hb (by assumption)).2.1 | exact (q_n hb (by assumption)).2.1) (by first | exact (q_p (top := top) hb (by assumption)).2.2 | exact (q_n (top := top) hb (by assumption)).2.2) (by k_asm) (by k_asm) (fun p hp => hp) (by first | exact And.right (by assumption) | ktn_lt)
end

/-! W4 -/
section
variable {w : World} {mean : ExcName → Option Value} {mg mb : Str → Option Value}

theorem assembled_tells (g whole power : Int) (t u v : Tok) (hg : g = 0 ∨ g = 1) (h0 : 0 ≤ whole) (h1 : whole ≤ 2 ^ 53) (h2 : -1074 ≤ power) :
    TellsG w mean mg mb 91 2 [.int g t, .int whole u, .int power v] (BackI (g * 2 ^ 63 + asmf whole power)) := by
  unfold TellsG; k_fill
  intro dp un gd cn cs a ccd cl outer A₀ base h₀ L m news s Q E B F X N T hk hd hu hret
  refine wpAny_call ?_
  k_dflt cell_enter
  k_with_none
  k_with "my call ref" => (k_here; k_dflt (refine' TellsG.use (signed_tells _ _ _ _ ?kp) ?k1 ?k2 ?k3 ?k4 ?k5 ?kK ?kd ?ku ?_; (case k1 => k_asm); (case k2 => k_asm); (case k3 => k_asm); (case k4 => k_asm); (case k5 => k_asm); (case kK => first | exact rfl | assumption); (case kp => assumption); (case kd => ktr_room); (case ku => ktr_units)); unfold BackI; intro t9 h9 tk9 F9 N9; (try dsimp only); (try k_fold))
  k_with "my call ref" => (k_here; k_dflt (refine' TellsG.use (pack_tells _ _ _ _ _ _ ?kp ?kq ?kr ?ks ?kt) ?k1 ?k2 ?k3 ?k4 ?k5 ?kK ?kd ?ku ?_; (case k1 => k_asm); (case k2 => k_asm); (case k3 => k_asm); (case k4 => k_asm); (case k5 => k_asm); (case kK => first | exact rfl | assumption); (case kp => assumption); (case kq => omega); (case kr => omega); (case ks => omega); (case kt => (have hs9 := shl53; omega)); (case kd => ktr_room); (case ku => ktr_units)); unfold BackI; intro t9 h9 tk9 F9 N9; (try dsimp only); (try k_fold))
  k_steps
  all_goals exact backI (Q := Q) (s := s) hret (by first | exact asm_a (by assumption) (by assumption) | exact asm_b (by assumption) (by assumption) | exact asm_c hg h0 (by assumption) (by assumption) | exact asm_d (by assumption) (by assumption) (by assumption) | exact asm_e (by assumption) (by assumption) (by assumption)) (by k_asm) (by first | k_asm | (refine' cb_drop ?cbN ?cbS; (case cbN => assumption); (case cbS => kcj_all)))
end

/-! W5 -/
section
variable {w : World} {mean : ExcName → Option Value} {mg mb : Str → Option Value}

theorem round_ratio_tells (g top bottom : Int) (t u v : Tok) (hg : g = 0 ∨ g = 1) (h0 : 0 ≤ top) (hb : 0 < bottom) (h1 : intBits top ≤ 4000) (h2 : intBits bottom ≤ 4000) :
    TellsG w mean mg mb 84 3 [.int g t, .int top u, .int bottom v] (BackI (g * 2 ^ 63 + rrf top bottom)) := by
  unfold TellsG; k_fill
  intro dp un gd cn cs a ccd cl outer A₀ base h₀ L m news s Q E B F X N T hk hd hu hret
  refine wpAny_call ?_
  k_dflt cell_enter
  k_with_none
  k_with "my call ref" => (k_here; k_dflt (refine' TellsG.use (width_tells _ _ ?kp) ?k1 ?k2 ?k3 ?k4 ?k5 ?kK ?kd ?ku ?_; (case k1 => k_asm); (case k2 => k_asm); (case k3 => k_asm); (case k4 => k_asm); (case k5 => k_asm); (case kK => first | exact rfl | assumption); (case kp => first | with_reducible assumption | omega); (case kd => ktr_room); (case ku => ktr_units)); unfold BackI; intro t9 h9 tk9 F9 N9; (try dsimp only); (try k_fold))
  k_with "my call ref" => (k_here; k_dflt (refine' TellsG.use (quotient_tells _ _ _ _ _ _ ?kp ?kq ?kr ?ks ?kt) ?k1 ?k2 ?k3 ?k4 ?k5 ?kK ?kd ?ku ?_; (case k1 => k_asm); (case k2 => k_asm); (case k3 => k_asm); (case k4 => k_asm); (case k5 => k_asm); (case kK => first | exact rfl | assumption); (case kp => first | with_reducible assumption | omega); (case kq => assumption); (case kr => assumption); (case ks => first | with_reducible assumption | omega); (case kt => first | with_reducible assumption | omega); (case kd => ktr_room); (case ku => ktr_units)); unfold BackT; intro D9 t9 u9 v9 c9 h9 tk9 F9 N9 l9; (try dsimp only); (try simp only [AllLt, and_true] at l9); (try k_fold))
  k_with "my call ref" => (k_here; k_dflt (refine' TellsG.use (assembled_tells _ _ _ _ _ _ ?kp ?kq ?kr ?ks) ?k1 ?k2 ?k3 ?k4 ?k5 ?kK ?kd ?ku ?_; (case k1 => k_asm); (case k2 => k_asm); (case k3 => k_asm); (case k4 => k_asm); (case k5 => k_asm); (case kK => first | exact rfl | assumption); (case kp => assumption); (case kq => first | exact (rr_b (by first | exact rpw_hi (by assumption) | exact rpw_lo (by assumption)) (by assumption) (by assumption) (by assumption)).2.2.2.1 | exact (rr_b (by first | exact rpw_hi (by assumption) | exact rpw_lo (by assumption)) (by assumption) (by assumption) (by assumption)).1); (case kr => first | exact (rr_b (by first | exact rpw_hi (by assumption) | exact rpw_lo (by assumption)) (by assumption) (by assumption) (by assumption)).2.1 | exact (rr_b (by first | exact rpw_hi (by assumption) | exact rpw_lo (by assumption)) (by assumption) (by assumption) (by assumption)).2.2.2.2); (case ks => first | with_reducible assumption | omega); (case kd => ktr_room); (case ku => ktr_units)); unfold BackI; intro t9 h9 tk9 F9 N9; (try dsimp only); (try k_fold))
  k_steps
  all_goals exact backI (Q := Q) (s := s) hret (by first | exact rr_0 (by assumption) | exact rr_up (by first | exact rpw_hi (by assumption) | exact rpw_lo (by assumption)) (by assumption) (by assumption) | exact rr_up2 (by first | exact rpw_hi (by assumption) | exact rpw_lo (by assumption)) (by assumption) (by assumption) (by assumption) | exact rr_no (by first | exact rpw_hi (by assumption) | exact rpw_lo (by assumption)) (by assumption) (by assumption) (by assumption) | exact rr_no2 (by first | exact rpw_hi (by assumption) | exact rpw_lo (by assumption)) (by assumption) (by assumption) (by assumption)) (by k_asm) (by first | k_asm | (refine' cb_drop ?cbN ?cbS; (case cbN => assumption); (case cbS => (intro p9 h9; repeat (first | exact h9 | refine List.mem_cons_of_mem _ ?_)))))
end

/-! W6 -/
section
variable {w : World} {mean : ExcName → Option Value} {mg mb : Str → Option Value}

theorem round_scaled_tells (g m₁ power : Int) (t u v : Tok) (hg : g = 0 ∨ g = 1) (h0 : 0 ≤ m₁) (h1 : intBits m₁ ≤ 2200) (h2 : -1400 ≤ power) (h3 : power ≤ 1000) :
    TellsG w mean mg mb 98 4 [.int g t, .int m₁ u, .int power v] (BackI (g * 2 ^ 63 + rsf m₁ power)) := by
  unfold TellsG; k_fill
  intro dp un gd cn cs a ccd cl outer A₀ base h₀ L m news s Q E B F X N T hk hd hu hret
  refine wpAny_call ?_
  k_dflt cell_enter
  k_with_none
  k_with "my call ref" => (k_here; k_dflt (refine' TellsG.use (width_tells _ _ ?kp) ?k1 ?k2 ?k3 ?k4 ?k5 ?kK ?kd ?ku ?_; (case k1 => k_asm); (case k2 => k_asm); (case k3 => k_asm); (case k4 => k_asm); (case k5 => k_asm); (case kK => first | exact rfl | assumption); (case kp => first | with_reducible assumption | omega); (case kd => ktr_room); (case ku => ktr_units)); unfold BackI; intro t9 h9 tk9 F9 N9; (try dsimp only); (try k_fold))
  k_with "my call ref" => (k_here; k_dflt (refine' TellsG.use (signed_tells _ _ _ _ ?kp) ?k1 ?k2 ?k3 ?k4 ?k5 ?kK ?kd ?ku ?_; (case k1 => k_asm); (case k2 => k_asm); (case k3 => k_asm); (case k4 => k_asm); (case k5 => k_asm); (case kK => first | exact rfl | assumption); (case kp => first | assumption | exact sgx01 (by assumption) (by assumption) (by assumption) (by assumption)); (case kd => ktr_room); (case ku => ktr_units)); unfold BackI; intro t9 h9 tk9 F9 N9; (try dsimp only); (try k_fold))
  k_with "my call ref" => (k_here; k_dflt (refine' TellsG.use (round_ratio_tells _ _ _ _ _ _ ?kp ?kq ?kr ?ks ?kt) ?k1 ?k2 ?k3 ?k4 ?k5 ?kK ?kd ?ku ?_; (case k1 => k_asm); (case k2 => k_asm); (case k3 => k_asm); (case k4 => k_asm); (case k5 => k_asm); (case kK => first | exact rfl | assumption); (case kp => first | assumption | exact sgx01 (by assumption) (by assumption) (by assumption) (by assumption)); (case kq => first | assumption | exact shl_nonneg (by assumption)); (case kr => first | decide | assumption | exact shl_pos (by first | decide | assumption | exact pm_pos (by assumption))); (case ks => first | assumption | omega | exact shl_bits (by omega) (by omega) | exact shl_bits2 (by omega) (by omega)); (case kt => first | decide | exact shl_bits (by first | decide | omega) (by omega)); (case kd => ktr_room); (case ku => ktr_units)); unfold BackI; intro t9 h9 tk9 F9 N9; (try dsimp only); (try k_fold))
  k_steps
  all_goals exact backI (Q := Q) (s := s) hret (by first | exact rs_0 (by assumption) | exact rs_1 (by assumption) | exact rs_2 (by assumption) (by assumption) (by assumption) | exact rs_3 (by assumption) (by assumption) (by assumption) (by assumption) | exact rs_4 (by assumption) (by assumption) (by assumption) (by assumption)) (by k_asm) (by first | k_asm | (refine' cb_drop ?cbN ?cbS; (case cbN => assumption); (case cbS => (intro p9 h9; repeat (first | exact h9 | refine List.mem_cons_of_mem _ ?_)))))
end

/-! W7 -/
section
variable {w : World} {mean : ExcName → Option Value} {mg mb : Str → Option Value}

theorem div_tells (x y : Int) (t u : Tok) (hx0 : 0 ≤ x) (hx1 : x < 2 ^ 64) (hy0 : 0 ≤ y) (hy1 : y < 2 ^ 64) :
    TellsG w mean mg mb 105 4 [.int x t, .int y u] (BackI (dv x y)) := by
  unfold TellsG; k_fill
  intro dp un gd cn cs a ccd cl outer A₀ base h₀ L m news s Q E B F X N T hk hd hu hret
  refine wpAny_call ?_
  k_dflt cell_enter
  k_with_none
  k_with "my call ref" => (k_here; k_dflt (refine' TellsG.use (is_nan_tells _ _) ?k1 ?k2 ?k3 ?k4 ?k5 ?kK ?kd ?ku ?_; (case k1 => k_asm); (case k2 => k_asm); (case k3 => k_asm); (case k4 => k_asm); (case k5 => k_asm); (case kK => first | exact rfl | assumption); (case kd => ktr_room); (case ku => ktr_units)); unfold BackB; intro h9 tk9 F9 N9; (try dsimp only); (try k_fold))
  k_with "my call ref" => (k_here; k_dflt (refine' TellsG.use (is_inf_tells _ _) ?k1 ?k2 ?k3 ?k4 ?k5 ?kK ?kd ?ku ?_; (case k1 => k_asm); (case k2 => k_asm); (case k3 => k_asm); (case k4 => k_asm); (case k5 => k_asm); (case kK => first | exact rfl | assumption); (case kd => ktr_room); (case ku => ktr_units)); unfold BackB; intro h9 tk9 F9 N9; (try dsimp only); (try k_fold))
  k_with "my call ref" => (k_here; k_dflt (refine' TellsG.use (is_zero_tells _ _) ?k1 ?k2 ?k3 ?k4 ?k5 ?kK ?kd ?ku ?_; (case k1 => k_asm); (case k2 => k_asm); (case k3 => k_asm); (case k4 => k_asm); (case k5 => k_asm); (case kK => first | exact rfl | assumption); (case kd => ktr_room); (case ku => ktr_units)); unfold BackB; intro h9 tk9 F9 N9; (try dsimp only); (try k_fold))
  k_with "my call ref" => (k_here; k_dflt (refine' TellsG.use (parts_tells _ _) ?k1 ?k2 ?k3 ?k4 ?k5 ?kK ?kd ?ku ?_; (case k1 => k_asm); (case k2 => k_asm); (case k3 => k_asm); (case k4 => k_asm); (case k5 => k_asm); (case kK => first | exact rfl | assumption); (case kd => ktr_room); (case ku => ktr_units)); unfold BackT; intro D9 t9 u9 v9 c9 h9 tk9 F9 N9 l9; (try dsimp only); (try simp only [AllLt, and_true] at l9); (try k_fold))
  k_with "my call ref" => (k_here; k_dflt (refine' TellsG.use (signed_tells _ _ _ _ ?kp) ?k1 ?k2 ?k3 ?k4 ?k5 ?kK ?kd ?ku ?_; (case k1 => k_asm); (case k2 => k_asm); (case k3 => k_asm); (case k4 => k_asm); (case k5 => k_asm); (case kK => first | exact rfl | assumption); (case kp => first | assumption | exact sgx01 (by assumption) (by assumption) (by assumption) (by assumption)); (case kd => ktr_room); (case ku => ktr_units)); unfold BackI; intro t9 h9 tk9 F9 N9; (try dsimp only); (try k_fold))
  k_with "my call ref" => (k_here; k_dflt (refine' TellsG.use (round_ratio_tells _ _ _ _ _ _ ?kp ?kq ?kr ?ks ?kt) ?k1 ?k2 ?k3 ?k4 ?k5 ?kK ?kd ?ku ?_; (case k1 => k_asm); (case k2 => k_asm); (case k3 => k_asm); (case k4 => k_asm); (case k5 => k_asm); (case kK => first | exact rfl | assumption); (case kp => first | assumption | exact sgx01 (by assumption) (by assumption) (by assumption) (by assumption)); (case kq => first | assumption | exact shl_nonneg (by assumption)); (case kr => first | decide | assumption | exact shl_pos (by first | decide | assumption | exact pm_pos (by assumption))); (case ks => first | assumption | omega | exact shl_bits (by omega) (by omega) | exact shl_bits2 (by omega) (by omega)); (case kt => first | decide | exact shl_bits (by first | decide | omega) (by omega)); (case kd => ktr_room); (case ku => ktr_units)); unfold BackI; intro t9 h9 tk9 F9 N9; (try dsimp only); (try k_fold))
  have hmx := pm_bits x
  have hmy := pm_bits y
  have hmx0 := pm_nonneg x
  have hmy0 := pm_nonneg y
  have hpx0 := pw_ge x
  have hpx1 := pw_le x
  have hpy0 := pw_ge y
  have hpy1 := pw_le y
  k_steps
  all_goals exact backI (Q := Q) (s := s) hret (by first | exact dv_nx (by assumption) | exact dv_ny (by assumption) | exact dv_ii (by assumption) (by assumption) (by assumption) (by assumption) | exact dv_if (by assumption) (by assumption) (by assumption) (by assumption) | exact dv_fi (by assumption) (by assumption) (by assumption) (by assumption) | exact dv_00 (by assumption) (by assumption) (by assumption) (by assumption) (by assumption) (by assumption) | exact dv_f0 (by assumption) (by assumption) (by assumption) (by assumption) (by assumption) (by assumption) | exact dv_ff (by assumption) (by assumption) (by assumption) (by assumption) (by assumption)) (by k_asm) (by first | k_asm | (refine' cb_drop ?cbN ?cbS; (case cbN => assumption); (case cbS => (intro p9 h9; repeat (first | exact h9 | refine List.mem_cons_of_mem _ ?_)))))
end

/-! W8 -/
section
variable {w : World} {mean : ExcName → Option Value} {mg mb : Str → Option Value}

theorem rem_tells (x y : Int) (t u : Tok) (hx0 : 0 ≤ x) (hx1 : x < 2 ^ 64) :
    TellsG w mean mg mb 112 5 [.int x t, .int y u] (BackI (rmd x y)) := by
  unfold TellsG; k_fill
  intro dp un gd cn cs a ccd cl outer A₀ base h₀ L m news s Q E B F X N T hk hd hu hret
  refine wpAny_call ?_
  k_dflt cell_enter
  k_with_none
  k_with "my binaryOp Mod int int" => (k_here; (with_reducible refine mod_int' ?kne ?_); (case kne => exact ne_shift (pm_pos (by assumption))))
  k_with "my call ref" => (k_here; k_dflt (refine' TellsG.use (is_nan_tells _ _) ?k1 ?k2 ?k3 ?k4 ?k5 ?kK ?kd ?ku ?_; (case k1 => k_asm); (case k2 => k_asm); (case k3 => k_asm); (case k4 => k_asm); (case k5 => k_asm); (case kK => first | exact rfl | assumption); (case kd => ktr_room); (case ku => ktr_units)); unfold BackB; intro h9 tk9 F9 N9; (try dsimp only); (try k_fold))
  k_with "my call ref" => (k_here; k_dflt (refine' TellsG.use (is_inf_tells _ _) ?k1 ?k2 ?k3 ?k4 ?k5 ?kK ?kd ?ku ?_; (case k1 => k_asm); (case k2 => k_asm); (case k3 => k_asm); (case k4 => k_asm); (case k5 => k_asm); (case kK => first | exact rfl | assumption); (case kd => ktr_room); (case ku => ktr_units)); unfold BackB; intro h9 tk9 F9 N9; (try dsimp only); (try k_fold))
  k_with "my call ref" => (k_here; k_dflt (refine' TellsG.use (is_zero_tells _ _) ?k1 ?k2 ?k3 ?k4 ?k5 ?kK ?kd ?ku ?_; (case k1 => k_asm); (case k2 => k_asm); (case k3 => k_asm); (case k4 => k_asm); (case k5 => k_asm); (case kK => first | exact rfl | assumption); (case kd => ktr_room); (case ku => ktr_units)); unfold BackB; intro h9 tk9 F9 N9; (try dsimp only); (try k_fold))
  k_with "my call ref" => (k_here; k_dflt (refine' TellsG.use (parts_tells _ _) ?k1 ?k2 ?k3 ?k4 ?k5 ?kK ?kd ?ku ?_; (case k1 => k_asm); (case k2 => k_asm); (case k3 => k_asm); (case k4 => k_asm); (case k5 => k_asm); (case kK => first | exact rfl | assumption); (case kd => ktr_room); (case ku => ktr_units)); unfold BackT; intro D9 t9 u9 v9 c9 h9 tk9 F9 N9 l9; (try dsimp only); (try simp only [AllLt, and_true] at l9); (try k_fold))
  k_with "my call ref" => (k_here; k_dflt (refine' TellsG.use (round_scaled_tells _ _ _ _ _ _ ?kp ?kq ?kr ?ks ?kt) ?k1 ?k2 ?k3 ?k4 ?k5 ?kK ?kd ?ku ?_; (case k1 => k_asm); (case k2 => k_asm); (case k3 => k_asm); (case k4 => k_asm); (case k5 => k_asm); (case kK => first | exact rfl | assumption); (case kp => first | assumption | exact sg01 (by assumption) (by assumption)); (case kq => first | assumption | exact fmod_nonneg' (shl_pos (pm_pos (by assumption)))); (case kr => first | assumption | exact fmod_bits (pm_pos (by assumption)) (by assumption) (by first | omega | (split <;> omega))); (case ks => first | omega | (split <;> omega)); (case kt => first | omega | (split <;> omega)); (case kd => ktr_room); (case ku => ktr_units)); unfold BackI; intro t9 h9 tk9 F9 N9; (try dsimp only); (try k_fold))
  have hmx := pm_bits x
  have hmy := pm_bits y
  have hmx0 := pm_nonneg x
  have hmy0 := pm_nonneg y
  have hpx0 := pw_ge x
  have hpx1 := pw_le x
  have hpy0 := pw_ge y
  have hpy1 := pw_le y
  k_steps
  all_goals exact backI (Q := Q) (s := s) hret (by first | exact rmd_n (.inl (by assumption)) | exact rmd_n (.inr (.inl (by assumption))) | exact rmd_n (.inr (.inr (.inl (by assumption)))) | exact rmd_n (.inr (.inr (.inr (by assumption)))) | exact rmd_x (by assumption) (by assumption) (by assumption) (by assumption) (.inl (by assumption)) | exact rmd_x (by assumption) (by assumption) (by assumption) (by assumption) (.inr (by assumption)) | exact rmd_r (by assumption) (by assumption) (by assumption) (by assumption) (by assumption) (by assumption)) (by k_asm) (by first | k_asm | (refine' cb_drop ?cbN ?cbS; (case cbN => assumption); (case cbS => (intro p9 h9; repeat (first | exact h9 | refine List.mem_cons_of_mem _ ?_)))))
end

/-! W9 -/
section
variable {w : World} {mean : ExcName → Option Value} {mg mb : Str → Option Value}

theorem whole_root_tells (n : Int) (t : Tok) (h0 : 0 ≤ n) (hb : intBits n ≤ 300) :
    TellsG w mean mg mb 119 2 [.int n t] (BackP (IsRoot n)) := by
  unfold TellsG; k_fill
  intro dp un gd cn cs a ccd cl outer A₀ base h₀ L m news s Q E B F X N T hk hd hu hret
  refine wpAny_call ?_
  k_dflt cell_enter
  k_with_none
  k_with "my exec While" => (k_here; k_extra "my while")
  k_with "my binaryOp FloorDiv int int" => (k_here; (with_reducible refine floordiv_int ?kne ?_ (Or.inl ?kpl)); (case kne => omega); (case kpl => first | exact noPl (by assumption) (by decide) | exact noPl (m := 64) (by decide) (by decide)))
  k_with "my binaryOp LShift int int" => (k_here; (with_reducible refine lshift_int ?kbn ?kbs ?_); (case kbn => exact root_k (by assumption)); (case kbs => exact root_kb (by assumption)))
  k_with "my call ref" => (k_here; k_dflt (refine' TellsG.use (width_tells _ _ ?kp) ?k1 ?k2 ?k3 ?k4 ?k5 ?kK ?kd ?ku ?_; (case k1 => k_asm); (case k2 => k_asm); (case k3 => k_asm); (case k4 => k_asm); (case k5 => k_asm); (case kK => first | exact rfl | assumption); (case kp => first | with_reducible assumption | omega); (case kd => ktr_room); (case ku => ktr_units)); unfold BackI; intro t9 h9 tk9 F9 N9; (try dsimp only); (try k_fold))
  k_with "my while" => k_while (fun _ x => 0 < x ∧ n < (x + 1) * (x + 1) ∧ intBits x ≤ 300) (fun _ x => x.toNat) "root"
  k_with "state" => first | exact root_s0 (by omega) (by assumption) | exact root_st (by omega) (by assumption) (by assumption) (by assumption) (by assumption)
  k_with "measure" => exact root_ms (by assumption) (by assumption)
  k_steps
  all_goals exact backP (Q := Q) (s := s) hret (by first | exact root_zero (by assumption) | exact root_done (by assumption) (by assumption) (by assumption)) (by k_asm) (by first | k_asm | (refine' cb_drop ?cbN ?cbS; (case cbN => assumption); (case cbS => (intro p9 h9; repeat (first | exact h9 | refine List.mem_cons_of_mem _ ?_)))))
end

/-! W10 -/
section
variable {w : World} {mean : ExcName → Option Value} {mg mb : Str → Option Value}

theorem sqrt_tells (x : Int) (t : Tok) :
    TellsG w mean mg mb 126 5 [.int x t] (BackP (SqR x)) := by
  unfold TellsG; k_fill
  intro dp un gd cn cs a ccd cl outer A₀ base h₀ L m news s Q E B F X N T hk hd hu hret
  refine wpAny_call ?_
  k_dflt cell_enter
  k_with_none
  k_with "my call ref" => (k_here; k_dflt (refine' TellsG.use (is_nan_tells _ _) ?k1 ?k2 ?k3 ?k4 ?k5 ?kK ?kd ?ku ?_; (case k1 => k_asm); (case k2 => k_asm); (case k3 => k_asm); (case k4 => k_asm); (case k5 => k_asm); (case kK => first | exact rfl | assumption); (case kd => ktr_room); (case ku => ktr_units)); unfold BackB; intro h9 tk9 F9 N9; (try dsimp only); (try k_fold))
  k_with "my call ref" => (k_here; k_dflt (refine' TellsG.use (is_inf_tells _ _) ?k1 ?k2 ?k3 ?k4 ?k5 ?kK ?kd ?ku ?_; (case k1 => k_asm); (case k2 => k_asm); (case k3 => k_asm); (case k4 => k_asm); (case k5 => k_asm); (case kK => first | exact rfl | assumption); (case kd => ktr_room); (case ku => ktr_units)); unfold BackB; intro h9 tk9 F9 N9; (try dsimp only); (try k_fold))
  k_with "my call ref" => (k_here; k_dflt (refine' TellsG.use (is_zero_tells _ _) ?k1 ?k2 ?k3 ?k4 ?k5 ?kK ?kd ?ku ?_; (case k1 => k_asm); (case k2 => k_asm); (case k3 => k_asm); (case k4 => k_asm); (case k5 => k_asm); (case kK => first | exact rfl | assumption); (case kd => ktr_room); (case ku => ktr_units)); unfold BackB; intro h9 tk9 F9 N9; (try dsimp only); (try k_fold))
  k_with "my call ref" => (k_here; k_dflt (refine' TellsG.use (is_negative_tells _ _) ?k1 ?k2 ?k3 ?k4 ?k5 ?kK ?kd ?ku ?_; (case k1 => k_asm); (case k2 => k_asm); (case k3 => k_asm); (case k4 => k_asm); (case k5 => k_asm); (case kK => first | exact rfl | assumption); (case kd => ktr_room); (case ku => ktr_units)); unfold BackB; intro h9 tk9 F9 N9; (try dsimp only); (try k_fold))
  k_with "my call ref" => (k_here; k_dflt (refine' TellsG.use (parts_tells _ _) ?k1 ?k2 ?k3 ?k4 ?k5 ?kK ?kd ?ku ?_; (case k1 => k_asm); (case k2 => k_asm); (case k3 => k_asm); (case k4 => k_asm); (case k5 => k_asm); (case kK => first | exact rfl | assumption); (case kd => ktr_room); (case ku => ktr_units)); unfold BackT; intro D9 t9 u9 v9 c9 h9 tk9 F9 N9 l9; (try dsimp only); (try simp only [AllLt, and_true] at l9); (try k_fold))
  k_with "my call ref" => (k_here; k_dflt (refine' TellsG.use (whole_root_tells _ _ ?kp ?kq) ?k1 ?k2 ?k3 ?k4 ?k5 ?kK ?kd ?ku ?_; (case k1 => k_asm); (case k2 => k_asm); (case k3 => k_asm); (case k4 => k_asm); (case k5 => k_asm); (case kK => first | exact rfl | assumption); (case kp => first | exact shl_nonneg (by assumption) | exact shl_nonneg (shl_nonneg (by assumption))); (case kq => first | exact sq_bits (by assumption) | exact sq_bits1 (by assumption)); (case kd => ktr_room); (case ku => ktr_units)); unfold BackP; intro x9 t9 h9 tk9 P9 F9 N9; (have R9 := root_facts (by first | exact sq_bits (by assumption) | exact sq_bits1 (by assumption)) P9); (obtain ⟨R8, R7, R6⟩ := R9); (try dsimp only); (try k_fold))
  k_with "my call ref" => (k_here; k_dflt (refine' TellsG.use (round_scaled_tells _ _ _ _ _ _ ?kp ?kq ?kr ?ks ?kt) ?k1 ?k2 ?k3 ?k4 ?k5 ?kK ?kd ?ku ?_; (case k1 => k_asm); (case k2 => k_asm); (case k3 => k_asm); (case k4 => k_asm); (case k5 => k_asm); (case kK => first | exact rfl | assumption); (case kp => exact .inl rfl); (case kq => first | with_reducible assumption | omega); (case kr => first | exact sq_b3 (by assumption) | exact sq_b4 (by assumption)); (case ks => exact sq_p0 (by omega)); (case kt => exact sq_p1 (by omega)); (case kd => ktr_room); (case ku => ktr_units)); unfold BackI; intro t9 h9 tk9 F9 N9; (try dsimp only); (try k_fold))
  have hmx := pm_bits x
  have hmx0 := pm_nonneg x
  have hpx0 := pw_ge x
  have hpx1 := pw_le x
  k_steps
  all_goals exact backP (Q := Q) (s := s) hret (by first | exact sq_a (.inl (by assumption)) | exact sq_a (.inr (by assumption)) | exact sq_b (by assumption) (by assumption) (by assumption) | exact sq_c (by assumption) (by assumption) (by assumption) (by assumption) | exact sq_end (by first | exact sm_1 (by assumption) | exact sm_0 (by assumption)) (by assumption) (by assumption) (by assumption) (by assumption) (by assumption) (by assumption) | exact sq_end0 (by first | exact sm_1 (by assumption) | exact sm_0 (by assumption)) (by assumption) (by assumption) (by assumption) (by assumption) (by assumption) (by assumption)) (by k_asm) (by first | k_asm | (refine' cb_drop ?cbN ?cbS; (case cbN => assumption); (case cbS => (intro p9 h9; repeat (first | exact h9 | refine List.mem_cons_of_mem _ ?_)))))
end

/-! V11 -/
section
variable {w : World} {mean : ExcName → Option Value} {mg mb : Str → Option Value}

theorem quotient_right_tells (x y : Int) (t u : Tok) (hx0 : 0 ≤ x) (hx1 : x < 2 ^ 64) (hy0 : 0 ≤ y) (hy1 : y < 2 ^ 64) :
    TellsG w mean mg mb 168 20 [.int x t, .int y u] (BackB true) := by
  unfold TellsG; k_fill
  intro dp un gd cn cs a ccd cl outer A₀ base h₀ L m news s Q E B F X N T hk hd hu hret
  refine wpAny_call ?_
  k_dflt cell_enter
  k_with_none
  k_with "my eval Call" => (k_here; k_dflt (refine Call_ ?_))
  k_with "my compareOp Eq ref ref" => (k_here; k_dflt (refine eq_dataH (by ke_read) (by ke_read) (by ke_shaped) (by ke_shaped) (by ktr_units) ?_); ke_norm; (try simp only [Int.reduceBEq, Bool.and_false, Bool.false_and, Bool.and_true, Bool.true_and, Int.reduceEq, decide_true, decide_false, decide_eq_true_eq]))
  k_with "my binaryOp Mod int int" => (k_here; (with_reducible refine mod_pos ?kne ?_); (case kne => decide))
  k_with "my binaryOp Pow int int" => (k_here; (refine pow2 1074 rfl (by decide) ?_); (generalize hc9 : (2 : Int) ^ 1074 = c9); (have hcb9 := c_bits hc9); (replace hc9 := Hold.mk hc9))
  k_with "my binaryOp Pow int int" => (k_here; (first | (refine pow2 63 rfl (by decide) ?_) | (refine pow2 52 rfl (by decide) ?_) | (refine pow2 64 rfl (by decide) ?_)); (simp only [Int.reducePow]))
  k_with "my call ref" => (k_here; k_dflt (refine' TellsG.use (law_kind_tells _ _) ?k1 ?k2 ?k3 ?k4 ?k5 ?kK ?kd ?ku ?_; (case k1 => k_asm); (case k2 => k_asm); (case k3 => k_asm); (case k4 => k_asm); (case k5 => k_asm); (case kK => first | exact rfl | assumption); (case kd => ktr_room); (case ku => ktr_units)); unfold BackI; (generalize hk9 : kd _ = k9); (replace hk9 := Hold.mk hk9); intro t9 h9 tk9 F9 N9; (try dsimp only); (try k_fold))
  k_with "my call ref" => (k_here; k_dflt (refine' TellsG.use (law_size_tells _ _) ?k1 ?k2 ?k3 ?k4 ?k5 ?kK ?kd ?ku ?_; (case k1 => k_asm); (case k2 => k_asm); (case k3 => k_asm); (case k4 => k_asm); (case k5 => k_asm); (case kK => first | exact rfl | assumption); (case kd => ktr_room); (case ku => ktr_units)); unfold BackI; (generalize hz9 : sz _ = z9); (have hzb9 := sz_bits' hz9); (replace hz9 := Hold.mk hz9); intro t9 h9 tk9 F9 N9; (try dsimp only); (try k_fold))
  k_with "my call ref" => (k_here; k_dflt (refine' TellsG.use (div_tells _ _ _ _ ?kp ?kq ?kr ?ks) ?k1 ?k2 ?k3 ?k4 ?k5 ?kK ?kd ?ku ?_; (case k1 => k_asm); (case k2 => k_asm); (case k3 => k_asm); (case k4 => k_asm); (case k5 => k_asm); (case kK => first | exact rfl | assumption); (case kp => assumption); (case kq => assumption); (case kr => assumption); (case ks => assumption); (case kd => ktr_room); (case ku => ktr_units)); unfold BackI; (generalize hf9 : dv _ _ = f9); (replace hf9 := Hold.mk hf9); intro t9 h9 tk9 F9 N9; (try dsimp only); (try k_fold))
  k_steps
  all_goals exact backB (Q := Q) (s := s) hret (by first | exact zz x (by with_reducible assumption) (by with_reducible assumption) | exact dq_nan (by with_reducible assumption) hx0 hx1 hy0 hy1 ((c_any (by with_reducible assumption) (by with_reducible assumption) (by with_reducible assumption)).imp id .inl) | exact dq_nan (by with_reducible assumption) hx0 hx1 hy0 hy1 (.inr (.inr (.inl ⟨k_1 (both_t (by with_reducible assumption)).1 (by with_reducible assumption), k_1 (both_t (by with_reducible assumption)).2 (by with_reducible assumption)⟩))) | exact dq_nan (by with_reducible assumption) hx0 hx1 hy0 hy1 (.inr (.inr (.inr ⟨lz (by with_reducible assumption), lz (by with_reducible assumption)⟩))) | exact dq_sign (by with_reducible assumption) hx0 hx1 hy0 hy1 (c_no (by with_reducible assumption) (by with_reducible assumption) (by with_reducible assumption) (by with_reducible assumption) (.inl (by with_reducible assumption))) (by with_reducible assumption) | exact dq_zero (by with_reducible assumption) hx0 hx1 hy0 hy1 (c_no (by with_reducible assumption) (by with_reducible assumption) (by with_reducible assumption) (by with_reducible assumption) (.inl (by with_reducible assumption))) (.inl (k_1 (by with_reducible assumption) (by with_reducible assumption))) | exact dq_zero (by with_reducible assumption) hx0 hx1 hy0 hy1 (c_no (by with_reducible assumption) (by with_reducible assumption) (by with_reducible assumption) (by with_reducible assumption) (.inl (by with_reducible assumption))) (.inr (lz (by with_reducible assumption))) | exact dq_inf (by with_reducible assumption) hx0 hx1 hy0 hy1 (c_no (by with_reducible assumption) (by with_reducible assumption) (by with_reducible assumption) (by with_reducible assumption) (.inl (by with_reducible assumption))) (.inl (k_1 (by with_reducible assumption) (by with_reducible assumption))) | exact dq_inf (by with_reducible assumption) hx0 hx1 hy0 hy1 (c_no (by with_reducible assumption) (by with_reducible assumption) (by with_reducible assumption) (by with_reducible assumption) (.inl (by with_reducible assumption))) (.inr (lz (by with_reducible assumption))) | exact dq_sign (by with_reducible assumption) hx0 hx1 hy0 hy1 (c_no (by with_reducible assumption) (by with_reducible assumption) (by with_reducible assumption) (by with_reducible assumption) (.inr (by with_reducible assumption))) (by with_reducible assumption) | exact dq_zero (by with_reducible assumption) hx0 hx1 hy0 hy1 (c_no (by with_reducible assumption) (by with_reducible assumption) (by with_reducible assumption) (by with_reducible assumption) (.inr (by with_reducible assumption))) (.inl (k_1 (by with_reducible assumption) (by with_reducible assumption))) | exact dq_zero (by with_reducible assumption) hx0 hx1 hy0 hy1 (c_no (by with_reducible assumption) (by with_reducible assumption) (by with_reducible assumption) (by with_reducible assumption) (.inr (by with_reducible assumption))) (.inr (lz (by with_reducible assumption))) | exact dq_inf (by with_reducible assumption) hx0 hx1 hy0 hy1 (c_no (by with_reducible assumption) (by with_reducible assumption) (by with_reducible assumption) (by with_reducible assumption) (.inr (by with_reducible assumption))) (.inl (k_1 (by with_reducible assumption) (by with_reducible assumption))) | exact dq_inf (by with_reducible assumption) hx0 hx1 hy0 hy1 (c_no (by with_reducible assumption) (by with_reducible assumption) (by with_reducible assumption) (by with_reducible assumption) (.inr (by with_reducible assumption))) (.inr (lz (by with_reducible assumption))) | exact decide_eq_true (by with_reducible assumption) | exact dq_up (by with_reducible assumption) hx0 hx1 hy0 hy1 (fin_x (by with_reducible assumption) (by with_reducible assumption) (by with_reducible assumption)) (fin_y (by with_reducible assumption) (by with_reducible assumption) (by with_reducible assumption)) (by with_reducible assumption) (by with_reducible assumption) (by with_reducible assumption) (by with_reducible assumption) (by with_reducible assumption) (by with_reducible assumption) (by with_reducible assumption) (by with_reducible assumption) (.inl (by with_reducible assumption)) | exact dq_up (by with_reducible assumption) hx0 hx1 hy0 hy1 (fin_x (by with_reducible assumption) (by with_reducible assumption) (by with_reducible assumption)) (fin_y (by with_reducible assumption) (by with_reducible assumption) (by with_reducible assumption)) (by with_reducible assumption) (by with_reducible assumption) (by with_reducible assumption) (by with_reducible assumption) (by with_reducible assumption) (by with_reducible assumption) (by with_reducible assumption) (by with_reducible assumption) (.inr ⟨(by with_reducible assumption), (by with_reducible assumption)⟩) | exact dq_dn1 (by with_reducible assumption) hx0 hx1 hy0 hy1 (fin_x (by with_reducible assumption) (by with_reducible assumption) (by with_reducible assumption)) (fin_y (by with_reducible assumption) (by with_reducible assumption) (by with_reducible assumption)) (by with_reducible assumption) (by with_reducible assumption) (by with_reducible assumption) (by with_reducible assumption) (by with_reducible assumption) (by with_reducible assumption) (by with_reducible assumption) (by with_reducible assumption) (by with_reducible assumption) | exact dq_dn1 (by with_reducible assumption) hx0 hx1 hy0 hy1 (fin_x (by with_reducible assumption) (by with_reducible assumption) (by with_reducible assumption)) (fin_y (by with_reducible assumption) (by with_reducible assumption) (by with_reducible assumption)) (by with_reducible assumption) (by with_reducible assumption) (by with_reducible assumption) (by with_reducible assumption) (by with_reducible assumption) (by with_reducible assumption) (by with_reducible assumption) (fpos (by with_reducible assumption)) (by with_reducible assumption) | exact dq_dn2 (by with_reducible assumption) hx0 hx1 hy0 hy1 (fin_x (by with_reducible assumption) (by with_reducible assumption) (by with_reducible assumption)) (fin_y (by with_reducible assumption) (by with_reducible assumption) (by with_reducible assumption)) (by with_reducible assumption) (by with_reducible assumption) (by with_reducible assumption) (by with_reducible assumption) (by with_reducible assumption) (by with_reducible assumption) (by with_reducible assumption) (by with_reducible assumption) (by with_reducible assumption) (by with_reducible assumption) | exact dq_dn2 (by with_reducible assumption) hx0 hx1 hy0 hy1 (fin_x (by with_reducible assumption) (by with_reducible assumption) (by with_reducible assumption)) (fin_y (by with_reducible assumption) (by with_reducible assumption) (by with_reducible assumption)) (by with_reducible assumption) (by with_reducible assumption) (by with_reducible assumption) (by with_reducible assumption) (by with_reducible assumption) (by with_reducible assumption) (by with_reducible assumption) (fpos (by with_reducible assumption)) (by with_reducible assumption) (by with_reducible assumption) | exact dq_0 (by with_reducible assumption) hx0 hx1 hy0 hy1 (fin_x (by with_reducible assumption) (by with_reducible assumption) (by with_reducible assumption)) (fin_y (by with_reducible assumption) (by with_reducible assumption) (by with_reducible assumption)) (by with_reducible assumption) (by with_reducible assumption) (by with_reducible assumption) (by with_reducible assumption) (by with_reducible assumption) (by with_reducible assumption)) (by k_asm) (by first | k_asm | (refine' cb_drop ?cbN ?cbS; (case cbN => assumption); (case cbS => (intro p9 h9; repeat (first | exact h9 | refine List.mem_cons_of_mem _ ?_)))))
end

/-! V12 -/
section
variable {w : World} {mean : ExcName → Option Value} {mg mb : Str → Option Value}

theorem rest_right_tells (x y : Int) (t u : Tok) (hx0 : 0 ≤ x) (hx1 : x < 2 ^ 64) (hy0 : 0 ≤ y) (hy1 : y < 2 ^ 64) :
    TellsG w mean mg mb 175 20 [.int x t, .int y u] (BackB true) := by
  unfold TellsG; k_fill
  intro dp un gd cn cs a ccd cl outer A₀ base h₀ L m news s Q E B F X N T hk hd hu hret
  refine wpAny_call ?_
  k_dflt cell_enter
  k_with_none
  k_with "my eval Call" => (k_here; k_dflt (refine Call_ ?_))
  k_with "my compareOp Eq ref ref" => (k_here; k_dflt (refine eq_dataH (by ke_read) (by ke_read) (by ke_shaped) (by ke_shaped) (by ktr_units) ?_); ke_norm; (try simp only [Int.reduceBEq, Bool.and_false, Bool.false_and, Bool.and_true, Bool.true_and, Int.reduceEq, decide_true, decide_false, decide_eq_true_eq]))
  k_with "my binaryOp Mod int int" => (k_here; (with_reducible refine mod_pos ?kne ?_); (case kne => first | decide | exact rz_pos (by with_reducible assumption) (by assumption)))
  k_with "my binaryOp Pow int int" => (k_here; (first | (refine pow2 63 rfl (by decide) ?_) | (refine pow2 52 rfl (by decide) ?_) | (refine pow2 64 rfl (by decide) ?_)); (simp only [Int.reducePow]))
  k_with "my call ref" => (k_here; k_dflt (refine' TellsG.use (law_kind_tells _ _) ?k1 ?k2 ?k3 ?k4 ?k5 ?kK ?kd ?ku ?_; (case k1 => k_asm); (case k2 => k_asm); (case k3 => k_asm); (case k4 => k_asm); (case k5 => k_asm); (case kK => first | exact rfl | assumption); (case kd => ktr_room); (case ku => ktr_units)); unfold BackI; (generalize hk9 : kd _ = k9); (replace hk9 := Hold.mk hk9); intro t9 h9 tk9 F9 N9; (try dsimp only); (try k_fold))
  k_with "my call ref" => (k_here; k_dflt (refine' TellsG.use (law_size_tells _ _) ?k1 ?k2 ?k3 ?k4 ?k5 ?kK ?kd ?ku ?_; (case k1 => k_asm); (case k2 => k_asm); (case k3 => k_asm); (case k4 => k_asm); (case k5 => k_asm); (case kK => first | exact rfl | assumption); (case kd => ktr_room); (case ku => ktr_units)); unfold BackI; (generalize hz9 : sz _ = z9); (have hzb9 := sz_bits' hz9); (replace hz9 := Hold.mk hz9); intro t9 h9 tk9 F9 N9; (try dsimp only); (try k_fold))
  k_with "my call ref" => (k_here; k_dflt (refine' TellsG.use (rem_tells _ _ _ _ ?kp ?kq) ?k1 ?k2 ?k3 ?k4 ?k5 ?kK ?kd ?ku ?_; (case k1 => k_asm); (case k2 => k_asm); (case k3 => k_asm); (case k4 => k_asm); (case k5 => k_asm); (case kK => first | exact rfl | assumption); (case kp => assumption); (case kq => assumption); (case kd => ktr_room); (case ku => ktr_units)); unfold BackI; (generalize hf9 : rmd _ _ = f9); (replace hf9 := Hold.mk hf9); intro t9 h9 tk9 F9 N9; (try dsimp only); (try k_fold))
  k_steps
  all_goals exact backB (Q := Q) (s := s) hret (by first | exact rq_nan (by with_reducible assumption) ((c_any (by with_reducible assumption) (by with_reducible assumption) (by with_reducible assumption)).imp id .inl) | exact rq_nan (by with_reducible assumption) (.inr (.inr (.inl (k_1 (by with_reducible assumption) (by with_reducible assumption))))) | exact rq_nan (by with_reducible assumption) (.inr (.inr (.inr (lz (by with_reducible assumption))))) | exact rq_x (by with_reducible assumption) (c_rno (by with_reducible assumption) (by with_reducible assumption) (by with_reducible assumption) (by with_reducible assumption) (by with_reducible assumption)) (k_1 (by with_reducible assumption) (by with_reducible assumption)) | exact rq_sign (by with_reducible assumption) hx0 hx1 (fin_x (by with_reducible assumption) (by with_reducible assumption) (by with_reducible assumption)) (fin_y (by with_reducible assumption) (by with_reducible assumption) (by with_reducible assumption)) (by with_reducible assumption) (by with_reducible assumption) | exact rq_kind (by with_reducible assumption) hx0 hx1 (fin_x (by with_reducible assumption) (by with_reducible assumption) (by with_reducible assumption)) (fin_y (by with_reducible assumption) (by with_reducible assumption) (by with_reducible assumption)) (by with_reducible assumption) (k_n0 (by with_reducible assumption) (by with_reducible assumption)) | exact rq_size (by with_reducible assumption) hx0 hx1 (fin_x (by with_reducible assumption) (by with_reducible assumption) (by with_reducible assumption)) (fin_y (by with_reducible assumption) (by with_reducible assumption) (by with_reducible assumption)) (by with_reducible assumption) (by with_reducible assumption) (by with_reducible assumption) (by with_reducible assumption)) (by k_asm) (by first | k_asm | (refine' cb_drop ?cbN ?cbS; (case cbN => assumption); (case cbS => (intro p9 h9; repeat (first | exact h9 | refine List.mem_cons_of_mem _ ?_)))))
end

/-! V13 -/
section
variable {w : World} {mean : ExcName → Option Value} {mg mb : Str → Option Value}

theorem root_right_tells (x : Int) (t : Tok) (hx0 : 0 ≤ x) (hx1 : x < 2 ^ 64) (hcan : 9218868437227405312 < x % 2 ^ 63 → x = 9221120237041090560) :
    TellsG w mean mg mb 182 20 [.int x t] (BackB true) := by
  unfold TellsG; k_fill
  intro dp un gd cn cs a ccd cl outer A₀ base h₀ L m news s Q E B F X N T hk hd hu hret
  refine wpAny_call ?_
  k_dflt cell_enter
  k_with_none
  k_with "my eval Call" => (k_here; k_dflt (refine Call_ ?_))
  k_with "my compareOp Eq ref ref" => (k_here; k_dflt (refine eq_dataH (by ke_read) (by ke_read) (by ke_shaped) (by ke_shaped) (by ktr_units) ?_); ke_norm; (try simp only [Int.reduceBEq, Bool.and_false, Bool.false_and, Bool.and_true, Bool.true_and, Int.reduceEq, decide_true, decide_false, decide_eq_true_eq]))
  k_with "my binaryOp Mod int int" => (k_here; (with_reducible refine mod_pos ?kne ?_); (case kne => decide))
  k_with "my binaryOp Pow int int" => (k_here; (refine pow2 1074 rfl (by decide) ?_); (generalize hc9 : (2 : Int) ^ 1074 = c9); (have hcb9 := c_bits hc9); (replace hc9 := Hold.mk hc9))
  k_with "my binaryOp Pow int int" => (k_here; (first | (refine pow2 63 rfl (by decide) ?_) | (refine pow2 52 rfl (by decide) ?_) | (refine pow2 64 rfl (by decide) ?_)); (simp only [Int.reducePow]))
  k_with "my call ref" => (k_here; k_dflt (refine' TellsG.use (law_kind_tells _ _) ?k1 ?k2 ?k3 ?k4 ?k5 ?kK ?kd ?ku ?_; (case k1 => k_asm); (case k2 => k_asm); (case k3 => k_asm); (case k4 => k_asm); (case k5 => k_asm); (case kK => first | exact rfl | assumption); (case kd => ktr_room); (case ku => ktr_units)); unfold BackI; (generalize hk9 : kd _ = k9); (replace hk9 := Hold.mk hk9); intro t9 h9 tk9 F9 N9; (try dsimp only); (try k_fold))
  k_with "my call ref" => (k_here; k_dflt (refine' TellsG.use (law_size_tells _ _) ?k1 ?k2 ?k3 ?k4 ?k5 ?kK ?kd ?ku ?_; (case k1 => k_asm); (case k2 => k_asm); (case k3 => k_asm); (case k4 => k_asm); (case k5 => k_asm); (case kK => first | exact rfl | assumption); (case kd => ktr_room); (case ku => ktr_units)); unfold BackI; (generalize hz9 : sz _ = z9); (have hzb9 := sz_bits' hz9); (replace hz9 := Hold.mk hz9); intro t9 h9 tk9 F9 N9; (try dsimp only); (try k_fold))
  k_with "my call ref" => (k_here; k_dflt (refine' TellsG.use (sqrt_tells _ _) ?k1 ?k2 ?k3 ?k4 ?k5 ?kK ?kd ?ku ?_; (case k1 => k_asm); (case k2 => k_asm); (case k3 => k_asm); (case k4 => k_asm); (case k5 => k_asm); (case kK => first | exact rfl | assumption); (case kd => ktr_room); (case ku => ktr_units)); unfold BackP; intro x9 t9 h9 tk9 P9 F9 N9; (replace P9 := Hold.mk P9); (try dsimp only); (try k_fold))
  k_steps
  all_goals exact backB (Q := Q) (s := s) hret (by first | exact rt_nan (by with_reducible assumption) hx0 hx1 hcan (.inl (k_2 (by with_reducible assumption) (by with_reducible assumption))) (neg_c0 hx1) | exact rt_nan (by with_reducible assumption) hx0 hx1 hcan (.inr (by with_reducible assumption)) (neg_c0 hx1) | exact rt_x (by with_reducible assumption) hx0 hx1 (k_n2 (by with_reducible assumption) (by with_reducible assumption)) (.inl (k_1 (by with_reducible assumption) (by with_reducible assumption))) (by with_reducible assumption) | exact rt_x (by with_reducible assumption) hx0 hx1 (k_n2 (by with_reducible assumption) (by with_reducible assumption)) (.inr (lz (by with_reducible assumption))) (by with_reducible assumption) | exact rt_out (by with_reducible assumption) hx0 hx1 (by with_reducible assumption) (k_n1 (by with_reducible assumption) (by with_reducible assumption) (by with_reducible assumption) (by with_reducible assumption)) (by with_reducible assumption) (.inl (by with_reducible assumption)) | exact rt_out (by with_reducible assumption) hx0 hx1 (by with_reducible assumption) (k_n1 (by with_reducible assumption) (by with_reducible assumption) (by with_reducible assumption) (by with_reducible assumption)) (by with_reducible assumption) (.inr (by with_reducible assumption)) | exact decide_eq_true (rt_in (by with_reducible assumption) hx0 hx1 (by with_reducible assumption) (k_n1 (by with_reducible assumption) (by with_reducible assumption) (by with_reducible assumption) (by with_reducible assumption)) (by with_reducible assumption) (by with_reducible assumption) (by with_reducible assumption) (by with_reducible assumption) (by with_reducible assumption) (by with_reducible assumption) (by with_reducible assumption)).1 | exact decide_eq_true (rt_in (by with_reducible assumption) hx0 hx1 (by with_reducible assumption) (k_n1 (by with_reducible assumption) (by with_reducible assumption) (by with_reducible assumption) (by with_reducible assumption)) (by with_reducible assumption) (by with_reducible assumption) (by with_reducible assumption) (by with_reducible assumption) (by with_reducible assumption) (by with_reducible assumption) (by with_reducible assumption)).2.1 | exact decide_eq_true ((rt_in (by with_reducible assumption) hx0 hx1 (by with_reducible assumption) (k_n1 (by with_reducible assumption) (by with_reducible assumption) (by with_reducible assumption) (by with_reducible assumption)) (by with_reducible assumption) (by with_reducible assumption) (by with_reducible assumption) (by with_reducible assumption) (by with_reducible assumption) (by with_reducible assumption) (by with_reducible assumption)).2.2 (by with_reducible assumption)).1 | exact decide_eq_true ((rt_in (by with_reducible assumption) hx0 hx1 (by with_reducible assumption) (k_n1 (by with_reducible assumption) (by with_reducible assumption) (by with_reducible assumption) (by with_reducible assumption)) (by with_reducible assumption) (by with_reducible assumption) (by with_reducible assumption) (by with_reducible assumption) (by with_reducible assumption) (by with_reducible assumption) (by with_reducible assumption)).2.2 (by with_reducible assumption)).2) (by k_asm) (by first | k_asm | (refine' cb_drop ?cbN ?cbS; (case cbN => assumption); (case cbS => (intro p9 h9; repeat (first | exact h9 | refine List.mem_cons_of_mem _ ?_)))))
end

/-! W14 -/
section
variable {w : World} {mean : ExcName → Option Value} {mg mb : Str → Option Value}

theorem law_cell_tells (l : Addr) (vs : List Value) (ns : List Int) (i : Int) (t : Tok) (hi : IntsAre vs ns) (hl : ns.length ≤ 24) (hbit : ∀ n ∈ ns, intBits n ≤ 1048576) (h0 : 0 ≤ i) (h1 : i ≤ 100) :
    TellsG w mean mg mb 140 2 [.ref l, .int i t] (fun h₀ L m news s Q => (∃ nn, (l, W.listOf vs.toArray nn) ∈ news) ∧ BackP CellOk h₀ L m news s Q) := by
  unfold TellsG; k_fill
  intro dp un gd cn cs a ccd cl outer A₀ base h₀ L m news s Q E B F X N T hk hd hu hret
  refine wpAny_call ?_
  k_dflt cell_enter
  k_with_none
  k_with "my is_list" => (exact newsIsList (by k_asm) (by with_reducible assumption))
  k_with "my k_memK" => (with_reducible assumption)
  obtain ⟨⟨nn, hmem⟩, hret⟩ := hret
  k_with "pyIter ref" => k_state (fun _ x => 0 ≤ x ∧ x < 1000003) "mixed"
  k_steps
  all_goals exact backP (Q := Q) (s := s) hret (by first | exact cell_a (by assumption) (by assumption) hbit | exact cell_b (by assumption) (by assumption)) (by k_asm) (by first | k_asm | (refine' cb_drop ?cbN ?cbS; (case cbN => assumption); (case cbS => (intro p9 h9; repeat (first | exact h9 | refine List.mem_cons_of_mem _ ?_)))))
end

/-! W15a -/
section
variable {w : World} {mean : ExcName → Option Value} {mg mb : Str → Option Value}

theorem law_special_tells : TellsG w mean mg mb 133 1 [] (BackL menu) := by
  unfold TellsG; k_fill
  intro dp un gd cn cs a ccd cl outer A₀ base h₀ L m news s Q E B F X N T hk hd hu hret
  refine wpAny_call ?_
  k_dflt cell_enter
  k_with_none
  k_with "my binaryOp Pow int int" => (k_here; (first | (refine pow2 63 rfl (by decide) ?_) | (refine pow2 52 rfl (by decide) ?_) | (refine pow2 64 rfl (by decide) ?_)); (simp only [Int.reducePow]))
  k_steps
  all_goals (refine' backL (Q := Q) (s := s) hret ?hi (by k_asm) ?hN (fun p hp => hp) (by first | exact And.right (by assumption) | ktn_lt); (case hN => k_asm); (case hi => (unfold menu; repeat (first | exact IntsAre.nil | refine IntsAre.cons _ _ ?_))))
end

/-! W15 -/
section
variable {w : World} {mean : ExcName → Option Value} {mg mb : Str → Option Value}

theorem law_double_tells (l : Addr) (i d : Int) (t u : Tok) (h0 : 0 ≤ i) (h1 : i ≤ 100) (hd0 : 0 ≤ d) (hd1 : d < 2 ^ 64) :
    TellsG w mean mg mb 147 20 [.ref l, .int i t, .int d u] (fun h₀ L m news s Q => ScrAt l news ∧ BackP Dbl h₀ L m news s Q) := by
  unfold TellsG; k_fill
  intro dp un gd cn cs a ccd cl outer A₀ base h₀ L m news s Q E B F X N T hk hd hu hret
  refine wpAny_call ?_
  k_dflt cell_enter
  k_with_none
  k_with "my is_list" => (exact newsIsList (by k_asm) (List.Mem.head _))
  k_with "my subscriptTail" => (k_here; (with_unfolding_all refine' item_anyK (ns := menu) ?k1 ?k2 ?k3 ?k4 ?k5 ?_ ?k6; (case k1 => is_list); (case k2 => assumption); (case k3 => exact Int.emod_nonneg _ (by decide)); (case k4 => exact Int.emod_lt_of_pos _ (by decide)); (case k5 => omega); (case k6 => with_unfolding_all rfl)); intro t9)
  k_with "my call ref" => (k_here; k_dflt (refine' TellsG.use (law_special_tells ) ?k1 ?k2 ?k3 ?k4 ?k5 ?kK ?kd ?ku ?_; (case k1 => k_asm); (case k2 => k_asm); (case k3 => k_asm); (case k4 => k_asm); (case k5 => k_asm); (case kK => first | exact rfl | assumption); (case kd => ktr_room); (case ku => ktr_units)); unfold BackL; intro D9 vs9 c9 h9 tk9 hi9 F9 N9 l9; (try dsimp only); (try simp only [AllLt, and_true] at l9); (try k_fold))
  k_with "my eval Call" => (k_here; k_dflt (refine Call_ ?_))
  k_with "my binaryOp Mod int int" => (k_here; (with_reducible refine mod_pos ?kne ?_); (case kne => decide))
  k_with "my binaryOp Pow int int" => (k_here; (refine powv ?kpa ?kpb ?_); (case kpa => omega); (case kpb => omega))
  k_with "my binaryOp Pow int int" => (k_here; (first | (refine pow2 63 rfl (by decide) ?_) | (refine pow2 52 rfl (by decide) ?_) | (refine pow2 64 rfl (by decide) ?_)); (simp only [Int.reducePow]))
  k_with "my binaryOp FloorDiv int int" => (k_here; (with_reducible refine div_pos ?kne ?kpl ?_); (case kne => first | decide | exact p2pos _); (case kpl => first | exact noPl (m := 64) (by decide) (by decide) | exact noPl_pow (by omega)))
  k_with "my binaryOp FloorDiv int int" => (k_here; (with_reducible rename Hold (CellOk _) => P8); (with_reducible refine div4 ?_); (generalize hr9 : _ / 4 = r9); (obtain ⟨hr8, hr7⟩ := rest_ok P8.out hr9); clear hr9; (replace P8 := And.intro P8 True.intro))
  k_with "my binaryOp Mult int int" => (k_here; (refine' mul_int ?_ ?km; (case km => exact mulok_dp (by omega) (by omega) (by omega))))
  k_with "my call ref" => (k_here; k_dflt (refine' TellsG.use (law_cell_tells _ _ _ _ _ ?kp ?kq ?kr ?ks ?kt) ?k1 ?k2 ?k3 ?k4 ?k5 ?kK ?kd ?ku ?_; (case k1 => k_asm); (case k2 => k_asm); (case k3 => k_asm); (case k4 => k_asm); (case k5 => k_asm); (case kK => first | exact rfl | assumption); (case kp => with_reducible assumption); (case kq => assumption); (case kr => assumption); (case ks => first | with_reducible assumption | omega); (case kt => first | with_reducible assumption | omega); (case kd => ktr_room); (case ku => ktr_units)); refine ⟨⟨_, by with_reducible assumption⟩, ?_⟩; unfold BackP; intro x9 t9 h9 tk9 P9 F9 N9; (replace P9 := Hold.mk P9); (try dsimp only); (try k_fold))
  obtain ⟨⟨vs, ns, nn, hmem, hi, hl, hbit⟩, hret⟩ := hret
  k_steps
  all_goals exact backP (Q := Q) (s := s) hret (by first | exact dbl_m | exact dbl_1 | exact dbl_n | exact dbl_e (by assumption)) (by k_asm) (by first | k_asm | (refine' cb_drop ?cbN ?cbS; (case cbN => assumption); (case cbS => (intro p9 h9; repeat (first | exact h9 | refine List.mem_cons_of_mem _ ?_)))))
end

/-! V16 -/
section
variable {w : World} {mean : ExcName → Option Value} {mg mb : Str → Option Value}

theorem dbl_lo {x : Int} (h : Dbl x) : 0 ≤ x := h.1
theorem dbl_hi {x : Int} (h : Dbl x) : x < 2 ^ 64 := h.2.1
theorem can_1 {x : Int} (h : Hold (Dbl x)) : 9218868437227405312 < x % 2 ^ 63 → x = 9221120237041090560 := h.out.2.2
theorem can_2 {x : Int} (h : Hold (Dbl x)) : 9218868437227405312 < x % 9223372036854775808 % 2 ^ 63 → x % 9223372036854775808 = 9221120237041090560 := by
  intro k
  have e := h.out.2.2 (by omega)
  rw [e]; rfl
theorem post_true (e : WCtx) (h : e.res = some (.bool true)) : WTm.value PySem.Challenge.rw_nt0405_01.row.records PySem.Challenge.rw_nt0405_01.row.post e = some (.bool true) := by
  have q : PySem.Challenge.rw_nt0405_01.row.post = .eq .res (.lit (.bool true)) := rfl
  rw [q]
  exact (w_eq_bool (w_res h) w_lit).trans rfl
theorem main : PySem.Challenge.rw_nt0405_01.Holds :=
  hd (by
    k_with_none
    k_with "my eval Call" => (k_here; k_dflt (refine Call_ ?_))
    k_with "my binaryOp Mod int int" => (k_here; (with_reducible refine mod_pos ?kne ?_); (case kne => decide))
    k_with "my binaryOp Pow int int" => (k_here; (first | (refine pow2 63 rfl (by decide) ?_) | (refine pow2 52 rfl (by decide) ?_) | (refine pow2 64 rfl (by decide) ?_)); (simp only [Int.reducePow]))
    k_with "my subscriptTail Call Name cons nil Slice ref ref" => (k_here; walk_at "last subscriptTail")
    k_with "my subscriptTail" => (k_here; (with_unfolding_all refine' item_anyK (ns := menu) ?k1 ?k2 ?k3 ?k4 ?k5 ?_ ?k6; (case k1 => exact newsIsList (by k_asm) (List.Mem.head _)); (case k2 => assumption); (case k3 => decide); (case k4 => decide); (case k5 => decide); (case k6 => with_unfolding_all rfl)); intro t9)
    k_with "my call ref" => (k_here; k_dflt (refine' TellsG.use (law_special_tells ) ?k1 ?k2 ?k3 ?k4 ?k5 ?kK ?kd ?ku ?_; (case k1 => k_asm); (case k2 => k_asm); (case k3 => k_asm); (case k4 => k_asm); (case k5 => k_asm); (case kK => first | exact rfl | assumption); (case kd => ktr_room); (case ku => ktr_units)); unfold BackL; intro D9 vs9 c9 h9 tk9 hi9 F9 N9 l9; (try dsimp only); (try simp only [AllLt, and_true] at l9); (try k_fold))
    k_with "my call ref" => (k_here; k_dflt (refine' TellsG.use (law_double_tells _ _ _ _ _ ?kp ?kq ?kr ?ks) ?k1 ?k2 ?k3 ?k4 ?k5 ?kK ?kd ?ku ?_; (case k1 => k_asm); (case k2 => k_asm); (case k3 => k_asm); (case k4 => k_asm); (case k5 => k_asm); (case kK => first | exact rfl | assumption); (case kp => omega); (case kq => omega); (case kr => first | with_reducible assumption | exact menu_2a | omega); (case ks => first | with_reducible assumption | exact menu_2b | omega); (case kd => ktr_room); (case ku => ktr_units)); k_dflt (refine ⟨scr_mk (by k_mem) (by assumption) (by assumption), ?_⟩); unfold BackP; intro x9 t9 h9 tk9 P9 F9 N9; (have Q8 := dbl_lo P9); (have Q7 := dbl_hi P9); (replace P9 := Hold.mk P9); (try dsimp only); (try k_fold))
    k_with "my call ref" => (k_here; k_dflt (refine' TellsG.use (quotient_right_tells _ _ _ _ ?kp ?kq ?kr ?ks) ?k1 ?k2 ?k3 ?k4 ?k5 ?kK ?kd ?ku ?_; (case k1 => k_asm); (case k2 => k_asm); (case k3 => k_asm); (case k4 => k_asm); (case k5 => k_asm); (case kK => first | exact rfl | assumption); (case kp => first | with_reducible assumption | omega); (case kq => first | with_reducible assumption | omega); (case kr => first | with_reducible assumption | omega); (case ks => first | with_reducible assumption | omega); (case kd => ktr_room); (case ku => ktr_units)); unfold BackB; intro h9 tk9 F9 N9; (try dsimp only); (try k_fold))
    k_with "my call ref" => (k_here; k_dflt (refine' TellsG.use (rest_right_tells _ _ _ _ ?kp ?kq ?kr ?ks) ?k1 ?k2 ?k3 ?k4 ?k5 ?kK ?kd ?ku ?_; (case k1 => k_asm); (case k2 => k_asm); (case k3 => k_asm); (case k4 => k_asm); (case k5 => k_asm); (case kK => first | exact rfl | assumption); (case kp => first | with_reducible assumption | omega); (case kq => first | with_reducible assumption | omega); (case kr => first | with_reducible assumption | omega); (case ks => first | with_reducible assumption | omega); (case kd => ktr_room); (case ku => ktr_units)); unfold BackB; intro h9 tk9 F9 N9; (try dsimp only); (try k_fold))
    k_with "my call ref" => (k_here; k_dflt (refine' TellsG.use (root_right_tells _ _ ?kp ?kq ?kr) ?k1 ?k2 ?k3 ?k4 ?k5 ?kK ?kd ?ku ?_; (case k1 => k_asm); (case k2 => k_asm); (case k3 => k_asm); (case k4 => k_asm); (case k5 => k_asm); (case kK => first | exact rfl | assumption); (case kp => first | with_reducible assumption | omega); (case kq => first | with_reducible assumption | omega); (case kr => first | exact can_1 (by assumption) | exact can_2 (by assumption)); (case kd => ktr_room); (case ku => ktr_units)); unfold BackB; intro h9 tk9 F9 N9; (try dsimp only); (try k_fold))
    k_with "pyIter ref" => k_state_short (fun _ x => 0 ≤ x ∧ x < 2 ^ 64) "ahead"
    k_with "state" => first | exact ⟨menu_2a, menu_2b⟩ | exact ⟨by with_reducible assumption, by with_reducible assumption⟩
    w_strict (k_go0; (all_goals try k_fold); (repeat' (first | (k_unfold; (try dsimp only)) | ((with_reducible show GoodW _ _ _ _ _ _ _); refine goodW_bool (by with_reducible assumption) (by assumption) (raisesW_false (fun ct h => nomatch h)) (postW_of rfl (post_true _ rfl) rfl)) | walk1 | (dsimp only; walk1) | (leave1; walk_say "STEP leave1"; try dsimp only) | fail "no step"))))
end

end Mine
theorem PySem.Challenge.cw_nt0405_01_holds : PySem.Challenge.rw_nt0405_01.Holds := by
  exact Mine.main
