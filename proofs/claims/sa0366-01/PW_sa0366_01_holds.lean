import PyProof.Rows.All
import Wide.All
import OpenK.AllK
import Wide.FinOn
import PySem.Challenge.RW_sa0366_01
open PySem PySem.Spec PySem.Calls PySem.W PyProof.Rows
set_option Elab.async false
set_option maxRecDepth 100000
set_option maxHeartbeats 0
namespace Mine
open_top hd for PySem.Challenge.rw_sa0366_01
noncomputable abbrev PR : Program := PySem.Challenge.rw_sa0366_01.row.prog
noncomputable abbrev LO : List Str := looseW hd.view_39 [Str.ofString "SIGN_BIT", Str.ofString "FRACTION_MASK", Str.ofString "HIDDEN_BIT_dbits", Str.ofString "INF", Str.ofString "HIDDEN_BIT_numshow"]
/-- what a call of the def at address f gives: a value and what it made, newest first -/
def Con (w : World) (mean : ExcName → Option Value) (mg mb : Str → Option Value) (f : Addr) (k : Nat) (vs : List Value) (P : Value → List (Addr × Obj) → Prop) : Prop :=
  ∀ (dp un : Nat) (gd : Option (List Code)) (cn : Str) (cs : Scope) (a : Addr) (ccd : Value) (cl : List (Str × Addr)) (outer : List Env) (A₀ : Around) (base h₀ : Heap) (L : Addr) (m : Str → Option Value) (news : List (Addr × Obj)) (s : Shared) (Q E : Value → Shared → Prop),
    Below A₀ base outer h₀ → Fr h₀ L s.heap m → (hd.heap_39 w.params).In h₀ → News h₀ L s.heap news → Top hd.view_39 LO mean mg mb h₀ → cs.kind = .function → dp + k < recursionLimit → un + 8 * k < cLine →
    (∀ (v : Value) (tl : List (Addr × Obj)) (h' : Heap) (tk' : Nat), P v tl → Fr h₀ L h' m → News h₀ L h' (tl ++ news) → Q v { s with heap := h', toks := tk' }) →
    wpAny (model PR w) (ktrTop dp un gd cn cs L a ccd cl outer) (call (.ref f) vs) Q E s
def OutI (x : Int) (v : Value) (tl : List (Addr × Obj)) : Prop := ∃ t, v = .int x t ∧ tl = []
def OutS (x : Str) (v : Value) (tl : List (Addr × Obj)) : Prop := ∃ t, v = .str x t ∧ tl = []
def OutB (x : Bool) (v : Value) (tl : List (Addr × Obj)) : Prop := v = .bool x ∧ tl = []

/-- few bits -/
structure Sm (k : Nat) (a : Int) : Prop where
  out : a.natAbs < 2 ^ k
theorem Sm.mono {j k : Nat} {a : Int} (h : Sm j a) (hk : j ≤ k) : Sm k a := ⟨Nat.lt_of_lt_of_le h.out (Nat.pow_le_pow_right (by decide) hk)⟩
theorem Sm.mul {j k : Nat} {a b : Int} (h : Sm j a) (g : Sm k b) : Sm (j + k) (a * b) := ⟨by
  rw [Int.natAbs_mul, Nat.pow_add]
  exact Nat.mul_lt_mul'' h.out g.out⟩
theorem Sm.add {j k : Nat} {a b : Int} (h : Sm j a) (g : Sm k b) : Sm (j + k + 1) (a + b) := ⟨by
  have h1 := Nat.lt_of_lt_of_le h.out (Nat.pow_le_pow_right (by decide) (Nat.le_add_right j k) : 2 ^ j ≤ 2 ^ (j + k))
  have h2 := Nat.lt_of_lt_of_le g.out (Nat.pow_le_pow_right (by decide) (Nat.le_add_left k j) : 2 ^ k ≤ 2 ^ (j + k))
  have h3 : (a + b).natAbs ≤ a.natAbs + b.natAbs := Int.natAbs_add_le a b
  rw [Nat.pow_succ]
  omega⟩
theorem Sm.of {k : Nat} {a : Int} (h0 : 0 ≤ a) (h1 : a < 2 ^ k) : Sm k a := ⟨by
  have : (a.natAbs : Int) = a := Int.natAbs_of_nonneg h0
  have h2 : ((a.natAbs : Nat) : Int) < ((2 ^ k : Nat) : Int) := by rw [this]; simpa using h1
  exact Int.ofNat_lt.mp h2⟩
theorem Sm.log {k : Nat} {a : Int} (h : Sm k a) (K : Nat) (hk : k ≤ K) (hK : 0 < K) : a.natAbs.log2 < K := by
  rcases Nat.eq_zero_or_pos a.natAbs with h0 | h0
  · rw [h0]; exact hK
  · exact (Nat.log2_lt (Nat.ne_of_gt h0)).mpr (Nat.lt_of_lt_of_le h.out (Nat.pow_le_pow_right (by decide) hk))
theorem Sm.bits {k : Nat} {a : Int} (h : Sm k a) : Builtin.Int.intBits a ≤ k := by
  unfold Builtin.Int.intBits
  split
  · exact Nat.zero_le _
  · rename_i hne
    rcases Nat.eq_zero_or_pos a.natAbs with h0 | h0
    · exact absurd (Int.natAbs_eq_zero.mp h0) (by simpa using hne)
    · have := (Nat.log2_lt (Nat.ne_of_gt h0)).mpr h.out
      omega
theorem Sm.mulok {j k : Nat} {a b : Int} (h : Sm j a) (g : Sm k b) (hk : j + k ≤ 100000) : IntMulOk a b := by
  have h1 := h.bits
  have h2 := g.bits
  have e : Builtin.Int.intTooBig (((Builtin.Int.intBits a : Nat) : Int) + (Builtin.Int.intBits b : Nat)) = false := decide_eq_false (Int.not_lt.mpr (by show _ ≤ (134217728 : Int); omega))
  unfold IntMulOk
  rw [e]
  simp
theorem Sm.pow10 {n : Int} (h : n ≤ 100) : Sm 400 (10 ^ n.toNat) := ⟨by
  have e : ((10 : Int) ^ n.toNat).natAbs = 10 ^ n.toNat := by rw [Int.natAbs_pow]; rfl
  rw [e]
  have h1 : (10 : Nat) ^ n.toNat ≤ 10 ^ 100 := Nat.pow_le_pow_right (by decide) (by omega)
  exact Nat.lt_of_le_of_lt h1 (by decide +kernel)⟩
theorem ten_pos (k : Nat) : (0 : Int) < 10 ^ k := Int.pow_pos (by decide)
theorem Sm.fdiv {k : Nat} {a b : Int} (h : Sm k a) : Sm k (a.fdiv b) := ⟨Nat.lt_of_le_of_lt (natAbs_fdiv_le a b) h.out⟩
theorem Sm.ne2 {b : Int} (h : 0 < b) : 2 * b ≠ 0 := by omega
abbrev tupO (vs : List Value) (c : Nat) : Obj := { cls := .type "tuple", data := .seq vs.toArray c }
def OutII (x y : Int) (v : Value) (tl : List (Addr × Obj)) : Prop := ∃ D t u c, v = .ref D ∧ tl = [(D, tupO [.int x t, .int y u] c)]
def OutSI (x : Str) (y : Int) (v : Value) (tl : List (Addr × Obj)) : Prop := ∃ D t u c, v = .ref D ∧ tl = [(D, tupO [.str x t, .int y u] c)]
def OutSII (x : Str) (y z : Int) (v : Value) (tl : List (Addr × Obj)) : Prop := ∃ D t u r c, v = .ref D ∧ tl = [(D, tupO [.str x t, .int y u, .int z r] c)]
def OutIII (x y z : Int) (v : Value) (tl : List (Addr × Obj)) : Prop := ∃ D t u r c, v = .ref D ∧ tl = [(D, tupO [.int x t, .int y u, .int z r] c)]
section
variable {w : World} {mean : ExcName → Option Value} {mg mb : Str → Option Value} {f : Addr} {k : Nat} {vs : List Value}
variable {dp un : Nat} {gd : Option (List Code)} {cn : Str} {cs : Scope} {a : Addr} {ccd : Value} {cl : List (Str × Addr)} {outer : List Env} {A₀ : Around} {base h₀ : Heap} {L : Addr} {m : Str → Option Value} {news : List (Addr × Obj)} {s : Shared} {Q E : Value → Shared → Prop}
theorem useI {x : Int} (C : Con w mean mg mb f k vs (OutI x))
    (B : Below A₀ base outer h₀) (F : Fr h₀ L s.heap m) (X : (hd.heap_39 w.params).In h₀) (N : News h₀ L s.heap news) (T : Top hd.view_39 LO mean mg mb h₀) (hk : cs.kind = .function) (hd : dp + k < recursionLimit) (hu : un + 8 * k < cLine)
    (ret : ∀ (t : Tok) (h' : Heap) (tk' : Nat), Fr h₀ L h' m → News h₀ L h' news → Q (.int x t) { s with heap := h', toks := tk' }) :
    wpAny (model PR w) (ktrTop dp un gd cn cs L a ccd cl outer) (call (.ref f) vs) Q E s :=
  C dp un gd cn cs a ccd cl outer A₀ base h₀ L m news s Q E B F X N T hk hd hu fun v tl h' tk' hP F' N' => by
    obtain ⟨t, rfl, rfl⟩ := hP
    exact ret t h' tk' F' N'
theorem useS {x : Str} (C : Con w mean mg mb f k vs (OutS x))
    (B : Below A₀ base outer h₀) (F : Fr h₀ L s.heap m) (X : (hd.heap_39 w.params).In h₀) (N : News h₀ L s.heap news) (T : Top hd.view_39 LO mean mg mb h₀) (hk : cs.kind = .function) (hd : dp + k < recursionLimit) (hu : un + 8 * k < cLine)
    (ret : ∀ (t : Tok) (h' : Heap) (tk' : Nat), Fr h₀ L h' m → News h₀ L h' news → Q (.str x t) { s with heap := h', toks := tk' }) :
    wpAny (model PR w) (ktrTop dp un gd cn cs L a ccd cl outer) (call (.ref f) vs) Q E s :=
  C dp un gd cn cs a ccd cl outer A₀ base h₀ L m news s Q E B F X N T hk hd hu fun v tl h' tk' hP F' N' => by
    obtain ⟨t, rfl, rfl⟩ := hP
    exact ret t h' tk' F' N'
theorem useB {x : Bool} (C : Con w mean mg mb f k vs (OutB x))
    (B : Below A₀ base outer h₀) (F : Fr h₀ L s.heap m) (X : (hd.heap_39 w.params).In h₀) (N : News h₀ L s.heap news) (T : Top hd.view_39 LO mean mg mb h₀) (hk : cs.kind = .function) (hd : dp + k < recursionLimit) (hu : un + 8 * k < cLine)
    (ret : ∀ (h' : Heap) (tk' : Nat), Fr h₀ L h' m → News h₀ L h' news → Q (.bool x) { s with heap := h', toks := tk' }) :
    wpAny (model PR w) (ktrTop dp un gd cn cs L a ccd cl outer) (call (.ref f) vs) Q E s :=
  C dp un gd cn cs a ccd cl outer A₀ base h₀ L m news s Q E B F X N T hk hd hu fun v tl h' tk' hP F' N' => by
    obtain ⟨rfl, rfl⟩ := hP
    exact ret h' tk' F' N'
theorem useII {x y : Int} (C : Con w mean mg mb f k vs (OutII x y))
    (B : Below A₀ base outer h₀) (F : Fr h₀ L s.heap m) (X : (hd.heap_39 w.params).In h₀) (N : News h₀ L s.heap news) (T : Top hd.view_39 LO mean mg mb h₀) (hk : cs.kind = .function) (hd : dp + k < recursionLimit) (hu : un + 8 * k < cLine)
    (ret : ∀ (D : Addr) (t u : Tok) (c : Nat) (h' : Heap) (tk' : Nat), Fr h₀ L h' m → News h₀ L h' ((D, tupO [.int x t, .int y u] c) :: news) → Q (.ref D) { s with heap := h', toks := tk' }) :
    wpAny (model PR w) (ktrTop dp un gd cn cs L a ccd cl outer) (call (.ref f) vs) Q E s :=
  C dp un gd cn cs a ccd cl outer A₀ base h₀ L m news s Q E B F X N T hk hd hu fun v tl h' tk' hP F' N' => by
    obtain ⟨D, t, u, c, rfl, rfl⟩ := hP
    exact ret D t u c h' tk' F' N'
theorem useSI {x : Str} {y : Int} (C : Con w mean mg mb f k vs (OutSI x y))
    (B : Below A₀ base outer h₀) (F : Fr h₀ L s.heap m) (X : (hd.heap_39 w.params).In h₀) (N : News h₀ L s.heap news) (T : Top hd.view_39 LO mean mg mb h₀) (hk : cs.kind = .function) (hd : dp + k < recursionLimit) (hu : un + 8 * k < cLine)
    (ret : ∀ (D : Addr) (t u : Tok) (c : Nat) (h' : Heap) (tk' : Nat), Fr h₀ L h' m → News h₀ L h' ((D, tupO [.str x t, .int y u] c) :: news) → Q (.ref D) { s with heap := h', toks := tk' }) :
    wpAny (model PR w) (ktrTop dp un gd cn cs L a ccd cl outer) (call (.ref f) vs) Q E s :=
  C dp un gd cn cs a ccd cl outer A₀ base h₀ L m news s Q E B F X N T hk hd hu fun v tl h' tk' hP F' N' => by
    obtain ⟨D, t, u, c, rfl, rfl⟩ := hP
    exact ret D t u c h' tk' F' N'
theorem useSII {x : Str} {y z : Int} (C : Con w mean mg mb f k vs (OutSII x y z))
    (B : Below A₀ base outer h₀) (F : Fr h₀ L s.heap m) (X : (hd.heap_39 w.params).In h₀) (N : News h₀ L s.heap news) (T : Top hd.view_39 LO mean mg mb h₀) (hk : cs.kind = .function) (hd : dp + k < recursionLimit) (hu : un + 8 * k < cLine)
    (ret : ∀ (D : Addr) (t u r : Tok) (c : Nat) (h' : Heap) (tk' : Nat), Fr h₀ L h' m → News h₀ L h' ((D, tupO [.str x t, .int y u, .int z r] c) :: news) → Q (.ref D) { s with heap := h', toks := tk' }) :
    wpAny (model PR w) (ktrTop dp un gd cn cs L a ccd cl outer) (call (.ref f) vs) Q E s :=
  C dp un gd cn cs a ccd cl outer A₀ base h₀ L m news s Q E B F X N T hk hd hu fun v tl h' tk' hP F' N' => by
    obtain ⟨D, t, u, r, c, rfl, rfl⟩ := hP
    exact ret D t u r c h' tk' F' N'
theorem useIII {x y z : Int} (C : Con w mean mg mb f k vs (OutIII x y z))
    (B : Below A₀ base outer h₀) (F : Fr h₀ L s.heap m) (X : (hd.heap_39 w.params).In h₀) (N : News h₀ L s.heap news) (T : Top hd.view_39 LO mean mg mb h₀) (hk : cs.kind = .function) (hd : dp + k < recursionLimit) (hu : un + 8 * k < cLine)
    (ret : ∀ (D : Addr) (t u r : Tok) (c : Nat) (h' : Heap) (tk' : Nat), Fr h₀ L h' m → News h₀ L h' ((D, tupO [.int x t, .int y u, .int z r] c) :: news) → Q (.ref D) { s with heap := h', toks := tk' }) :
    wpAny (model PR w) (ktrTop dp un gd cn cs L a ccd cl outer) (call (.ref f) vs) Q E s :=
  C dp un gd cn cs a ccd cl outer A₀ base h₀ L m news s Q E B F X N T hk hd hu fun v tl h' tk' hP F' N' => by
    obtain ⟨D, t, u, r, c, rfl, rfl⟩ := hP
    exact ret D t u r c h' tk' F' N'
end
section
variable {h₀ h' : Heap} {L : Addr} {m : Str → Option Value} {news news' : List (Addr × Obj)} {s : Shared} {Q : Value → Shared → Prop} {tk' : Nat}
theorem endI {x y : Int} {t : Tok} (hret : ∀ (v : Value) (tl : List (Addr × Obj)) (h' : Heap) (tk' : Nat), OutI x v tl → Fr h₀ L h' m → News h₀ L h' (tl ++ news) → Q v { s with heap := h', toks := tk' })
    (e : y = x) (F : Fr h₀ L h' m) (N : News h₀ L h' news') (hs : ∀ p ∈ news, p ∈ news') : Q (.int y t) { s with heap := h', toks := tk' } :=
  hret _ [] h' tk' ⟨t, by rw [e], rfl⟩ F fun p hp => N p (hs p hp)
theorem endS {x y : Str} {t : Tok} (hret : ∀ (v : Value) (tl : List (Addr × Obj)) (h' : Heap) (tk' : Nat), OutS x v tl → Fr h₀ L h' m → News h₀ L h' (tl ++ news) → Q v { s with heap := h', toks := tk' })
    (e : y = x) (F : Fr h₀ L h' m) (N : News h₀ L h' news') (hs : ∀ p ∈ news, p ∈ news') : Q (.str y t) { s with heap := h', toks := tk' } :=
  hret _ [] h' tk' ⟨t, by rw [e], rfl⟩ F fun p hp => N p (hs p hp)
theorem endB {x y : Bool} (hret : ∀ (v : Value) (tl : List (Addr × Obj)) (h' : Heap) (tk' : Nat), OutB x v tl → Fr h₀ L h' m → News h₀ L h' (tl ++ news) → Q v { s with heap := h', toks := tk' })
    (e : y = x) (F : Fr h₀ L h' m) (N : News h₀ L h' news') (hs : ∀ p ∈ news, p ∈ news') : Q (.bool y) { s with heap := h', toks := tk' } :=
  hret _ [] h' tk' ⟨by rw [e], rfl⟩ F fun p hp => N p (hs p hp)
theorem endT {P : Value → List (Addr × Obj) → Prop} {D : Addr} {o : Obj} (hret : ∀ (v : Value) (tl : List (Addr × Obj)) (h' : Heap) (tk' : Nat), P v tl → Fr h₀ L h' m → News h₀ L h' (tl ++ news) → Q v { s with heap := h', toks := tk' })
    (e : P (.ref D) [(D, o)]) (F : Fr h₀ L h' m) (N : News h₀ L h' ((D, o) :: news')) (hs : ∀ p ∈ news, p ∈ news') : Q (.ref D) { s with heap := h', toks := tk' } :=
  hret _ [(D, o)] h' tk' e F fun p hp => by
    rcases List.mem_cons.mp hp with rfl | hp
    · exact N _ (.head _)
    · exact N p (.tail _ (hs p hp))
end
/-- the doubles that the law builds -/
structure InB (b : Int) : Prop where
  lo : 973 * 4503599627370496 ≤ b
  hi : b < 1093 * 4503599627370496
@[irreducible] def mant (b : Int) : Int := b % 4503599627370496 + 4503599627370496
@[irreducible] def expo (b : Int) : Int := b / 4503599627370496 - 1075
theorem inb_all {b : Int} (h : InB b) : Builtin.bitAnd b (9223372036854775808 - 1) = b := by
  have e := kbt_mask b 63
  have e1 : ((2 : Int) ^ 63 - 1) = 9223372036854775808 - 1 := by decide
  have e2 : ((2 : Int) ^ 63) = 9223372036854775808 := by decide
  rw [e1, e2] at e
  rw [e]
  have := h.lo
  have := h.hi
  omega
theorem inb_sign {b : Int} (h : InB b) : b.fdiv (2 ^ Int.toNat 63) = 0 := by
  have e2 : ((2 : Int) ^ Int.toNat 63) = 9223372036854775808 := by decide
  rw [e2, Int.fdiv_eq_ediv_of_nonneg _ (by decide)]
  have := h.lo
  have := h.hi
  omega
theorem inb_exp {b : Int} (h : InB b) : Builtin.bitAnd (b.fdiv (2 ^ Int.toNat 52)) 2047 = b / 4503599627370496 := by
  have e2 : ((2 : Int) ^ Int.toNat 52) = 4503599627370496 := by decide
  rw [e2, Int.fdiv_eq_ediv_of_nonneg _ (by decide)]
  have e := kbt_mask (b / 4503599627370496) 11
  have e1 : ((2 : Int) ^ 11 - 1) = 2047 := by decide
  have e3 : ((2 : Int) ^ 11) = 2048 := by decide
  rw [e1, e3] at e
  rw [e]
  have := h.lo
  have := h.hi
  omega
theorem inb_frac (b : Int) : Builtin.bitAnd b 4503599627370495 = b % 4503599627370496 := by
  have e := kbt_mask b 52
  have e1 : ((2 : Int) ^ 52 - 1) = 4503599627370495 := by decide
  have e2 : ((2 : Int) ^ 52) = 4503599627370496 := by decide
  rw [e1, e2] at e
  exact e
theorem inb_mant (b : Int) : Builtin.bitOr (Builtin.bitAnd b 4503599627370495) 4503599627370496 = mant b := by
  have e2 : ((2 : Int) ^ 52) = 4503599627370496 := by decide
  have e := kbt_bit (b % 4503599627370496) 52
  rw [e2] at e
  have z : b % 4503599627370496 / 4503599627370496 = 0 := by omega
  rw [z] at e
  rw [inb_frac, bitOr_and, e]
  unfold mant
  omega
theorem inb_expo {b : Int} (h : InB b) : Builtin.bitAnd (b.fdiv (2 ^ Int.toNat 52)) 2047 - 1075 = expo b := by
  rw [inb_exp h]
  unfold expo
  rfl
theorem mant_lo (b : Int) : 4503599627370496 ≤ mant b := by unfold mant; omega
theorem mant_hi (b : Int) : mant b < 9007199254740992 := by unfold mant; omega
theorem expo_lo {b : Int} (h : InB b) : -102 ≤ expo b := by
  have := h.lo
  unfold expo
  omega
theorem expo_hi {b : Int} (h : InB b) : expo b ≤ 17 := by
  have := h.hi
  unfold expo
  omega
@[irreducible] def topOf (b : Int) : Int := if 0 ≤ expo b then mant b * 2 ^ (expo b).toNat else mant b
@[irreducible] def botOf (b : Int) : Int := if 0 ≤ expo b then 1 else 1 * 2 ^ (-expo b).toNat
theorem two_pow_pos (k : Nat) : (0 : Int) < 2 ^ k := kbt_pos k
theorem two_pow_mono {j k : Nat} (h : j ≤ k) : (2 : Int) ^ j ≤ 2 ^ k := by
  have := Nat.pow_le_pow_right (n := 2) (by decide) h
  rw [← kbt_cast, ← kbt_cast]
  exact Int.ofNat_le.mpr this
theorem topOf_pos (b : Int) : 0 < topOf b := by
  have := mant_lo b
  unfold topOf
  split
  · exact Int.mul_pos (by omega) (two_pow_pos _)
  · omega
theorem botOf_pos (b : Int) : 0 < botOf b := by
  unfold botOf
  split
  · decide
  · rw [Int.one_mul]; exact two_pow_pos _
theorem topOf_hi {b : Int} (h : InB b) : topOf b < 2 ^ 70 := by
  have h1 := mant_lo b
  have h2 := mant_hi b
  have h3 := expo_hi h
  unfold topOf
  split
  · rename_i h0
    have e : (2 : Int) ^ (expo b).toNat ≤ 2 ^ 17 := two_pow_mono (by omega)
    have h4 : mant b * 2 ^ (expo b).toNat ≤ mant b * 2 ^ 17 := Int.mul_le_mul_of_nonneg_left e (by omega)
    have h5 : mant b * 2 ^ 17 < 9007199254740992 * 2 ^ 17 := by
      have : (2 : Int) ^ 17 = 131072 := by decide
      omega
    have h6 : (9007199254740992 : Int) * 2 ^ 17 = 2 ^ 70 := by decide
    omega
  · have h6 : (9007199254740992 : Int) < 2 ^ 70 := by decide
    omega
theorem botOf_hi {b : Int} (h : InB b) : botOf b ≤ 2 ^ 102 := by
  have h3 := expo_lo h
  unfold botOf
  split
  · decide
  · rw [Int.one_mul]
    exact two_pow_mono (by omega)
theorem topOf_p {b : Int} (h : 0 ≤ expo b) : topOf b = mant b * 2 ^ (expo b).toNat := by unfold topOf; rw [if_pos h]
theorem topOf_n {b : Int} (h : ¬ 0 ≤ expo b) : topOf b = mant b := by unfold topOf; rw [if_neg h]
theorem botOf_p {b : Int} (h : 0 ≤ expo b) : botOf b = 1 := by unfold botOf; rw [if_pos h]
theorem botOf_n {b : Int} (h : ¬ 0 ≤ expo b) : botOf b = 1 * 2 ^ (-expo b).toNat := by unfold botOf; rw [if_neg h]
/-- a text's length is at most k -/
structure Ln (k : Nat) (x : PySem.Str) : Prop where
  out : x.length ≤ k
theorem Ln.app {j k : Nat} {x y : PySem.Str} (h : Ln j x) (g : Ln k y) : Ln (j + k) (x ++ y) := ⟨KT.len_app h.out g.out⟩
theorem Ln.mono {j k : Nat} {x : PySem.Str} (h : Ln j x) (hk : j ≤ k) : Ln k x := ⟨Nat.le_trans h.out hk⟩
theorem Ln.sl {k : Nat} {x : PySem.Str} {i j : Option Int} (h : Ln k x) : Ln k (Txt.slice x i j) := ⟨Nat.le_trans (Txt.slice_le x i j) h.out⟩
theorem Ln.num {n : Int} (h0 : 0 ≤ n) (h1 : n < 10 ^ 60) : Ln 60 (PySem.Str.ofString (toString n)) := ⟨toString_length_le h0 (by decide) h1⟩
theorem Ln.ite {c : Prop} [Decidable c] {k : Nat} {x y : PySem.Str} (h : Ln k x) (g : Ln k y) : Ln k (if c then x else y) := by
  split <;> assumption
section
variable {prog : Program} {w : World} {A : Around} {E : Value → Shared → Prop} {s : Shared} {x y : PySem.Str} {t u : Tok} {Q : Value → Shared → Prop} {j k : Nat}
theorem addS (h : Ln j x) (g : Ln k y) (hz : j + k ≤ 16777216) (hq : ∀ t' c, Q (.str (x ++ y) t') { s with toks := c }) : wpAny (model prog w) A (binaryOp .Add (.str x t) (.str y u)) Q E s :=
  KXadd.add h.out g.out hz fun t' c _ => hq t' c
theorem lenS (h : Ln k x) (hz : k ≤ 1000000) (hq : Q (.int (x.length) (s.toks + 1)) { s with toks := s.toks + 1 + 1 }) : wpAny (model prog w) A (call (.builtin "len") [.str x t]) Q E s :=
  P.len_str (by have := h.out; omega) hq
end
def hu (t b : Int) : Int := Int.fdiv (2 * t + b) (2 * b)
def nd (n : Int) : Int := ((PySem.Str.ofString (toString n)).length : Int)
def dpl (top bottom : Int) : Int :=
  if 0 ≤ nd top - nd bottom ∧ bottom * 10 ^ (nd top - nd bottom).toNat ≤ top then nd top - nd bottom + 1
  else if nd top - nd bottom < 0 ∧ bottom ≤ top * 10 ^ (0 - (nd top - nd bottom)).toNat then nd top - nd bottom + 1 else nd top - nd bottom
def rSh (top bottom many : Int) : Int := many - 1 - (dpl top bottom - 1)
def rF (top bottom many : Int) : Int := if 0 ≤ rSh top bottom many then hu (top * 10 ^ (rSh top bottom many).toNat) bottom else hu top (bottom * 10 ^ (0 - rSh top bottom many).toNat)
def rFig (top bottom many : Int) : Int := if 10 ^ many.toNat ≤ rF top bottom many then (rF top bottom many).fdiv 10 else rF top bottom many
def rExp (top bottom many : Int) : Int := if 10 ^ many.toNat ≤ rF top bottom many then dpl top bottom - 1 + 1 else dpl top bottom - 1
theorem rF_p {t b n : Int} (h : 0 ≤ n - 1 - (dpl t b - 1)) : rF t b n = hu (t * 10 ^ (n - 1 - (dpl t b - 1)).toNat) b := by unfold rF rSh; rw [if_pos h]
theorem rF_n {t b n : Int} (h : ¬ 0 ≤ n - 1 - (dpl t b - 1)) : rF t b n = hu t (b * 10 ^ (0 - (n - 1 - (dpl t b - 1))).toNat) := by unfold rF rSh; rw [if_neg h]
theorem dpl_bounds {t b : Int} {B : Nat} (h1 : (PySem.Str.ofString (toString t)).length ≤ B) (h2 : (PySem.Str.ofString (toString b)).length ≤ B) : -(B : Int) ≤ dpl t b ∧ dpl t b ≤ B + 1 := by
  unfold dpl nd
  split
  · omega
  · split <;> omega
theorem ten_pos' (k : Nat) : (0 : Int) < 10 ^ k := Int.pow_pos (by decide)
theorem ten_mono {j k : Nat} (h : j ≤ k) : (10 : Int) ^ j ≤ 10 ^ k := by
  have := Nat.pow_le_pow_right (n := 10) (by decide) h
  have h2 : (((10 : Nat) ^ j : Nat) : Int) ≤ (((10 : Nat) ^ k : Nat) : Int) := Int.ofNat_le.mpr this
  simpa using h2
/-- the number of a text's figures -/
theorem len_num_iff (m : Nat) {k : Nat} (hk : 0 < k) : (PySem.Str.ofString (toString ((m : Nat) : Int))).length ≤ k ↔ m < 10 ^ k := by
  have e : (PySem.Str.ofString (toString ((m : Nat) : Int))).length = (Nat.toDigits 10 m).length := by
    have h := congrArg List.length (KIN.signs_num m)
    rw [List.length_map, Array.length_toList] at h
    exact h
  rw [e]
  exact Nat.length_toDigits_le_iff (by decide) hk
theorem nd_pos {n : Int} (h0 : 0 ≤ n) : 1 ≤ nd n := by
  have := KLn.one_le h0
  unfold nd
  omega
theorem nd_hi {n : Int} (h : 0 < n) : n < 10 ^ (nd n).toNat := by
  obtain ⟨m, rfl⟩ := Int.eq_ofNat_of_zero_le (Int.le_of_lt h)
  have h1 := KLn.one_le (n := ((m : Nat) : Int)) (by omega)
  have h2 := (len_num_iff m (k := (nd m).toNat) (by unfold nd; omega)).mp (by unfold nd; omega)
  have h3 : ((m : Nat) : Int) < (((10 : Nat) ^ (nd m).toNat : Nat) : Int) := Int.ofNat_lt.mpr h2
  simpa using h3
theorem nd_lo {n : Int} (h : 0 < n) : 10 ^ (nd n - 1).toNat ≤ n := by
  obtain ⟨m, rfl⟩ := Int.eq_ofNat_of_zero_le (Int.le_of_lt h)
  have h1 := KLn.one_le (n := ((m : Nat) : Int)) (by omega)
  by_cases hz : (nd m - 1).toNat = 0
  · rw [hz, Int.pow_zero]; omega
  · have h2 : ¬ m < 10 ^ (nd m - 1).toNat := fun q => by
      have := (len_num_iff m (k := (nd m - 1).toNat) (by omega)).mpr q
      unfold nd at this
      omega
    have h3 : (((10 : Nat) ^ (nd m - 1).toNat : Nat) : Int) ≤ ((m : Nat) : Int) := Int.ofNat_le.mpr (Nat.le_of_not_lt h2)
    simpa using h3
/-- t / b lies below ten to the power of n -/
def Lt (t b n : Int) : Prop := ∀ p q : Nat, (p : Int) - q = n → t * 10 ^ q < b * 10 ^ p
/-- ten to the power of n is at most t / b -/
def Le (t b n : Int) : Prop := ∀ p q : Nat, (p : Int) - q = n → b * 10 ^ p ≤ t * 10 ^ q
theorem swap10 (x : Int) (i j : Nat) : x * 10 ^ i * 10 ^ j = x * 10 ^ j * 10 ^ i := by
  rw [Int.mul_assoc, Int.mul_assoc, Int.mul_comm (10 ^ i)]
theorem Lt.of {t b n : Int} (p q : Nat) (e : (p : Int) - q = n) (h : t * 10 ^ q < b * 10 ^ p) : Lt t b n := by
  intro p' q' e'
  have h1 : t * 10 ^ q * 10 ^ q' < b * 10 ^ p * 10 ^ q' := Int.mul_lt_mul_of_pos_right h (ten_pos' q')
  have h2 : b * 10 ^ p * 10 ^ q' = b * 10 ^ p' * 10 ^ q := by
    rw [Int.mul_assoc, Int.mul_assoc, ← Int.pow_add, ← Int.pow_add]
    have : p + q' = p' + q := by omega
    rw [this]
  rw [h2, swap10] at h1
  exact Int.lt_of_mul_lt_mul_right h1 (Int.le_of_lt (ten_pos' q))
theorem Le.of {t b n : Int} (p q : Nat) (e : (p : Int) - q = n) (h : b * 10 ^ p ≤ t * 10 ^ q) : Le t b n := by
  intro p' q' e'
  have h1 : b * 10 ^ p * 10 ^ q' ≤ t * 10 ^ q * 10 ^ q' := Int.mul_le_mul_of_nonneg_right h (Int.le_of_lt (ten_pos' q'))
  have h2 : b * 10 ^ p * 10 ^ q' = b * 10 ^ p' * 10 ^ q := by
    rw [Int.mul_assoc, Int.mul_assoc, ← Int.pow_add, ← Int.pow_add]
    have : p + q' = p' + q := by omega
    rw [this]
  rw [h2, swap10 t q q'] at h1
  exact Int.le_of_mul_le_mul_right h1 (ten_pos' q)
theorem dpl_spec {t b : Int} (ht : 0 < t) (hb : 0 < b) : Lt t b (dpl t b) ∧ Le t b (dpl t b - 1) := by
  have t1 := nd_pos (Int.le_of_lt ht)
  have b1 := nd_pos (Int.le_of_lt hb)
  have tl := nd_lo ht
  have th := nd_hi ht
  have bl := nd_lo hb
  have bh := nd_hi hb
  have up : Lt t b (nd t - nd b + 1) := by
    refine Lt.of (nd t).toNat (nd b - 1).toNat (by omega) ?_
    have h1 : t * 10 ^ (nd b - 1).toNat < 10 ^ (nd t).toNat * 10 ^ (nd b - 1).toNat := Int.mul_lt_mul_of_pos_right th (ten_pos' _)
    have h2 : 10 ^ (nd t).toNat * 10 ^ (nd b - 1).toNat ≤ 10 ^ (nd t).toNat * b := Int.mul_le_mul_of_nonneg_left bl (Int.le_of_lt (ten_pos' _))
    rw [Int.mul_comm b]
    omega
  have dn : Le t b (nd t - nd b - 1) := by
    refine Le.of (nd t - 1).toNat (nd b).toNat (by omega) ?_
    have h1 : b * 10 ^ (nd t - 1).toNat ≤ b * t := Int.mul_le_mul_of_nonneg_left tl (Int.le_of_lt hb)
    have h2 : b * t < 10 ^ (nd b).toNat * t := Int.mul_lt_mul_of_pos_right bh ht
    rw [Int.mul_comm t (10 ^ _)]
    omega
  unfold dpl
  by_cases c1 : 0 ≤ nd t - nd b ∧ b * 10 ^ (nd t - nd b).toNat ≤ t
  · rw [if_pos c1]
    refine ⟨up, ?_⟩
    have e : nd t - nd b + 1 - 1 = nd t - nd b := by omega
    rw [e]
    exact Le.of (nd t - nd b).toNat 0 (by omega) (by simpa using c1.2)
  · rw [if_neg c1]
    by_cases c2 : nd t - nd b < 0 ∧ b ≤ t * 10 ^ (0 - (nd t - nd b)).toNat
    · rw [if_pos c2]
      refine ⟨up, ?_⟩
      have e : nd t - nd b + 1 - 1 = nd t - nd b := by omega
      rw [e]
      exact Le.of 0 (0 - (nd t - nd b)).toNat (by omega) (by simpa using c2.2)
    · rw [if_neg c2]
      refine ⟨?_, dn⟩
      by_cases c : 0 ≤ nd t - nd b
      · refine Lt.of (nd t - nd b).toNat 0 (by omega) ?_
        have : ¬ b * 10 ^ (nd t - nd b).toNat ≤ t := fun q => c1 ⟨c, q⟩
        simpa using this
      · refine Lt.of 0 (0 - (nd t - nd b)).toNat (by omega) ?_
        have : ¬ b ≤ t * 10 ^ (0 - (nd t - nd b)).toNat := fun q => c2 ⟨by omega, q⟩
        simpa using this
theorem hu_spec {T B : Int} (hB : 0 < B) : 2 * (hu T B * B - T) ≤ B ∧ -B < 2 * (hu T B * B - T) := by
  unfold hu
  rw [Int.fdiv_eq_ediv_of_nonneg _ (by omega)]
  have h1 := Int.emod_add_mul_ediv (2 * T + B) (2 * B)
  have h2 := Int.emod_nonneg (2 * T + B) (show 2 * B ≠ 0 by omega)
  have h3 := Int.emod_lt_of_pos (2 * T + B) (show 0 < 2 * B by omega)
  have h4 : 2 * B * ((2 * T + B) / (2 * B)) = 2 * ((2 * T + B) / (2 * B) * B) := by
    rw [Int.mul_assoc, Int.mul_comm B]
  omega
theorem hu_lo {T B k : Int} (hB : 0 < B) (h : k * B ≤ T) : k ≤ hu T B := by
  have s := (hu_spec (T := T) hB).2
  have h1 : (k - 1) * B < hu T B * B := by
    have : (k - 1) * B = k * B - B := by rw [Int.sub_mul, Int.one_mul]
    omega
  have := Int.lt_of_mul_lt_mul_right h1 (Int.le_of_lt hB)
  omega
theorem hu_hi {T B k : Int} (hB : 0 < B) (h : T < k * B) : hu T B ≤ k := by
  have s := (hu_spec (T := T) hB).1
  have h1 : hu T B * B < (k + 1) * B := by
    have : (k + 1) * B = k * B + B := by rw [Int.add_mul, Int.one_mul]
    omega
  have := Int.lt_of_mul_lt_mul_right h1 (Int.le_of_lt hB)
  omega
/-- the number N * 10 ** pl is near to t / b, as the law asks it -/
def Near (t b N pl : Int) : Prop :=
  0 - 10 ^ (max 0 pl).toNat * b < 2 * (N * 10 ^ (max 0 pl).toNat * b - t * 10 ^ (max 0 (0 - pl)).toNat) ∧
  2 * (N * 10 ^ (max 0 pl).toNat * b - t * 10 ^ (max 0 (0 - pl)).toNat) ≤ 10 ^ (max 0 pl).toNat * b
theorem near_hu {t b pl : Int} (N : Int) (hN : N = hu (t * 10 ^ (max 0 (0 - pl)).toNat) (10 ^ (max 0 pl).toNat * b)) (hb : 0 < b) : Near t b N pl := by
  have hB : 0 < 10 ^ (max 0 pl).toNat * b := Int.mul_pos (ten_pos' _) hb
  have s := hu_spec (T := t * 10 ^ (max 0 (0 - pl)).toNat) hB
  rw [← hN] at s
  unfold Near
  rw [Int.mul_assoc]
  omega
theorem ten_succ {k : Nat} (h : 1 ≤ k) : (10 : Int) ^ k = 10 * 10 ^ (k - 1) := by
  have e : k = (k - 1) + 1 := by omega
  rw [e, Int.pow_succ, Int.mul_comm]
  simp
theorem rFig_spec {t b n : Int} (ht : 0 < t) (hb : 0 < b) (hn : 1 ≤ n) :
    10 ^ (n - 1).toNat ≤ rFig t b n ∧ rFig t b n < 10 ^ n.toNat ∧ Near t b (rFig t b n) (rExp t b n - (n - 1)) := by
  obtain ⟨hL, hE⟩ := dpl_spec ht hb
  generalize hd : dpl t b = d at hL hE
  have hten := ten_succ (k := n.toNat) (by omega)
  have hn1 : n.toNat - 1 = (n - 1).toNat := by omega
  rw [hn1] at hten
  have pn := ten_pos' (n - 1).toNat
  have key : ∃ T B : Int, 0 < B ∧ rF t b n = hu T B ∧ 10 ^ (n - 1).toNat * B ≤ T ∧ T < 10 ^ n.toNat * B ∧
      T = t * 10 ^ (max 0 (0 - (d - n))).toNat ∧ B = 10 ^ (max 0 (d - n)).toNat * b := by
    by_cases c : 0 ≤ n - 1 - (d - 1)
    · refine ⟨t * 10 ^ (n - 1 - (d - 1)).toNat, b, hb, by rw [rF_p (by rw [hd]; exact c), hd], ?_, ?_, ?_, ?_⟩
      · rw [Int.mul_comm]; exact hE (n - 1).toNat (n - 1 - (d - 1)).toNat (by omega)
      · rw [Int.mul_comm (10 ^ n.toNat)]; exact hL n.toNat (n - 1 - (d - 1)).toNat (by omega)
      · have : (n - 1 - (d - 1)).toNat = (max 0 (0 - (d - n))).toNat := by omega
        rw [this]
      · have : (max 0 (d - n)).toNat = 0 := by omega
        rw [this]; simp
    · refine ⟨t, b * 10 ^ (0 - (n - 1 - (d - 1))).toNat, Int.mul_pos hb (ten_pos' _), by rw [rF_n (by rw [hd]; exact c), hd], ?_, ?_, ?_, ?_⟩
      · have h := hE ((n - 1).toNat + (0 - (n - 1 - (d - 1))).toNat) 0 (by omega)
        rw [Int.pow_add, Int.pow_zero, Int.mul_one] at h
        rw [Int.mul_comm, Int.mul_assoc, Int.mul_comm (10 ^ (0 - (n - 1 - (d - 1))).toNat)]
        exact h
      · have h := hL (n.toNat + (0 - (n - 1 - (d - 1))).toNat) 0 (by omega)
        rw [Int.pow_add, Int.pow_zero, Int.mul_one] at h
        rw [Int.mul_comm (10 ^ n.toNat), Int.mul_assoc, Int.mul_comm (10 ^ (0 - (n - 1 - (d - 1))).toNat)]
        exact h
      · have : (max 0 (0 - (d - n))).toNat = 0 := by omega
        rw [this]; simp
      · have : (0 - (n - 1 - (d - 1))).toNat = (max 0 (d - n)).toNat := by omega
        rw [this, Int.mul_comm]
  obtain ⟨T, B, hB, hF, lo, hi, eT, eB⟩ := key
  have l1 := hu_lo hB lo
  have l2 := hu_hi hB hi
  have sp := hu_spec (T := T) hB
  rw [← hF] at l1 l2 sp
  unfold rFig rExp
  rw [hd]
  by_cases c : 10 ^ n.toNat ≤ rF t b n
  · rw [if_pos c, if_pos c]
    have e : rF t b n = 10 ^ n.toNat := by omega
    have e2 : (rF t b n).fdiv 10 = 10 ^ (n - 1).toNat := by
      rw [e, hten, Int.fdiv_eq_ediv_of_nonneg _ (by decide)]
      omega
    rw [e2]
    refine ⟨Int.le_refl _, by omega, ?_⟩
    rw [e] at sp
    unfold Near
    have ed : d - 1 + 1 - (n - 1) = d - n + 1 := by omega
    rw [ed]
    by_cases c2 : d - n < 0
    · have q1 : (max 0 (d - n + 1)).toNat = 0 := by omega
      have q2 : (max 0 (0 - (d - n))).toNat = (max 0 (0 - (d - n + 1))).toNat + 1 := by omega
      have q3 : (max 0 (d - n)).toNat = 0 := by omega
      rw [q2, Int.pow_succ, ← Int.mul_assoc] at eT
      rw [q3] at eB
      rw [q1]
      simp only [Int.pow_zero, Int.one_mul, Int.mul_one] at eB ⊢
      subst eB
      rw [hten, Int.mul_assoc] at sp
      rw [hten, Int.mul_assoc] at hi
      generalize 10 ^ (n - 1).toNat * B = z at *
      omega
    · have q1 : (max 0 (d - n + 1)).toNat = (max 0 (d - n)).toNat + 1 := by omega
      have q2 : (max 0 (0 - (d - n))).toNat = 0 := by omega
      have q3 : (max 0 (0 - (d - n + 1))).toNat = 0 := by omega
      rw [q2] at eT
      rw [q1, q3, Int.pow_succ, Int.mul_comm _ 10]
      simp only [Int.pow_zero, Int.mul_one] at eT ⊢
      subst eT
      have q4 : 10 ^ (n - 1).toNat * (10 * 10 ^ (max 0 (d - n)).toNat) * b = 10 ^ n.toNat * B := by
        rw [eB, hten, ← Int.mul_assoc, ← Int.mul_assoc, Int.mul_comm (10 ^ (n - 1).toNat) 10]
      have q5 : 10 * 10 ^ (max 0 (d - n)).toNat * b = 10 * B := by rw [eB, Int.mul_assoc]
      rw [q4, q5]
      generalize 10 ^ n.toNat * B = z at *
      omega
  · rw [if_neg c, if_neg c]
    refine ⟨l1, by omega, ?_⟩
    have ed : d - 1 - (n - 1) = d - n := by omega
    rw [ed]
    exact near_hu _ (by rw [hF, eT, eB]) hb
theorem Sm.topOf' {b : Int} (h : InB b) : (topOf b).natAbs < 2 ^ 300 := by
  have h0 := topOf_pos b
  have h1 := topOf_hi h
  have h2 : (2 : Int) ^ 70 = 1180591620717411303424 := by decide
  have h3 : (2 : Nat) ^ 300 = 2037035976334486086268445688409378161051468393665936250636140449354381299763336706183397376 := by decide +kernel
  omega
theorem Sm.botOf' {b : Int} (h : InB b) : (botOf b).natAbs < 2 ^ 300 := by
  have h0 := botOf_pos b
  have h1 := botOf_hi h
  have h2 : (2 : Int) ^ 102 = 5070602400912917605986812821504 := by decide
  have h3 : (2 : Nat) ^ 300 = 2037035976334486086268445688409378161051468393665936250636140449354381299763336706183397376 := by decide +kernel
  omega
theorem topOf_len {b : Int} (h : InB b) : (PySem.Str.ofString (toString (topOf b))).length ≤ 40 := by
  have h1 := topOf_hi h
  have h2 : (2 : Int) ^ 70 = 1180591620717411303424 := by decide
  exact toString_length_le (Int.le_of_lt (topOf_pos b)) (by decide) (by omega)
theorem botOf_len {b : Int} (h : InB b) : (PySem.Str.ofString (toString (botOf b))).length ≤ 40 := by
  have h1 := botOf_hi h
  have h2 : (2 : Int) ^ 102 = 5070602400912917605986812821504 := by decide
  exact toString_length_le (Int.le_of_lt (botOf_pos b)) (by decide) (by omega)
/-- the figures and the exponent that rounded gives of the double -/
@[irreducible] def fig (b n : Int) : Int := rFig (topOf b) (botOf b) n
@[irreducible] def ex (b n : Int) : Int := rExp (topOf b) (botOf b) n
theorem fig_spec {b n : Int} (hn : 1 ≤ n) : 10 ^ (n - 1).toNat ≤ fig b n ∧ fig b n < 10 ^ n.toNat ∧ Near (topOf b) (botOf b) (fig b n) (ex b n - (n - 1)) := by
  unfold fig ex
  exact rFig_spec (topOf_pos b) (botOf_pos b) hn
theorem fig_pos {b n : Int} (hn : 1 ≤ n) : 0 < fig b n := by
  have := (fig_spec (b := b) hn).1
  have := ten_pos' (n - 1).toNat
  omega
theorem fig_hi {b n : Int} (hn : 1 ≤ n) (h1 : n ≤ 21) : fig b n < 10 ^ 60 := by
  have := (fig_spec (b := b) hn).2.1
  have h2 := ten_mono (j := n.toNat) (k := 60) (by omega)
  omega
theorem fig_ln {b n : Int} (hn : 1 ≤ n) (h1 : n ≤ 21) : Ln 60 (PySem.Str.ofString (toString (fig b n))) := Ln.num (Int.le_of_lt (fig_pos hn)) (fig_hi hn h1)
theorem ex_near {b n : Int} (h : InB b) : -50 ≤ ex b n ∧ ex b n ≤ 50 := by
  have := dpl_bounds (topOf_len h) (botOf_len h)
  unfold ex rExp
  split <;> omega
theorem ex_bounds {b n : Int} (h : InB b) : -100 ≤ ex b n ∧ ex b n ≤ 100 := by
  have := ex_near (n := n) h
  omega
/-- the whole number that to_fixed shows -/
@[irreducible] def fixN (b many : Int) : Int := hu (topOf b * 10 ^ many.toNat) (botOf b)
theorem fixN_lo {b many : Int} : 0 ≤ fixN b many := by
  unfold fixN
  refine hu_lo (botOf_pos b) ?_
  rw [Int.zero_mul]
  exact Int.le_of_lt (Int.mul_pos (topOf_pos b) (ten_pos' _))
theorem fixN_hi {b many : Int} (h : topOf b < botOf b * 10 ^ 21) (h0 : 0 ≤ many) (h1 : many ≤ 20) : fixN b many < 10 ^ 60 := by
  have h2 : fixN b many ≤ 10 ^ (21 + many.toNat) := by
    unfold fixN
    refine hu_hi (botOf_pos b) ?_
    have h3 : topOf b * 10 ^ many.toNat < botOf b * 10 ^ 21 * 10 ^ many.toNat := Int.mul_lt_mul_of_pos_right h (ten_pos' _)
    rw [Int.pow_add, Int.mul_comm _ (botOf b), ← Int.mul_assoc]
    exact h3
  have h3 : (10 : Int) ^ (21 + many.toNat) ≤ 10 ^ 41 := ten_mono (by omega)
  have h4 : (10 : Int) ^ 41 < 10 ^ 60 := by decide
  omega
theorem fixN_ln {b many : Int} (h : topOf b < botOf b * 10 ^ 21) (h0 : 0 ≤ many) (h1 : many ≤ 20) : Ln 60 (PySem.Str.ofString (toString (fixN b many))) := Ln.num fixN_lo (fixN_hi h h0 h1)
theorem fixN_near {b many : Int} (h0 : 0 ≤ many) : Near (topOf b) (botOf b) (fixN b many) (-many) := by
  refine near_hu _ ?_ (botOf_pos b)
  have e1 : (max 0 (0 - -many)).toNat = many.toNat := by omega
  have e2 : (max 0 (-many)).toNat = 0 := by omega
  rw [e1, e2]
  unfold fixN
  simp
theorem Ln.mulS {x : PySem.Str} {i : Int} (h : x.length = 1) (h1 : i ≤ 100) : Ln 100 (Txt.mul x i) := ⟨by
  have := len_mul x i
  rw [h] at this
  split at this <;> omega⟩
section
variable {prog : Program} {w : World} {A : Around} {E : Value → Shared → Prop} {s : Shared} {x : PySem.Str} {t u : Tok} {Q : Value → Shared → Prop} {i : Int}
theorem mulS (h : x.length = 1) (h0 : -100 ≤ i) (h1 : i ≤ 100) (hq : ∀ t' c, Q (.str (Txt.mul x i) t') { s with toks := c }) : wpAny (model prog w) A (binaryOp .Mult (.str x t) (.int i u)) Q E s :=
  KXi.mul h (by decide) (by omega) (by omega) fun t' c _ _ => hq t' c
end
/-- a text by its signs' numbers -/
@[irreducible] def tx (l : List Nat) : PySem.Str := ⟨l.toArray⟩
theorem tx_def (l : List Nat) : tx l = ⟨l.toArray⟩ := by unfold tx; rfl
theorem tx_list (l : List Nat) : (tx l).cps.toList = l := by rw [tx_def]
theorem tx_ext {x y : PySem.Str} (h : x.cps.toList = y.cps.toList) : x = y := PySem.Str.ext' (Array.toList_inj.mp h)
theorem tx_eta (x : PySem.Str) : tx x.cps.toList = x := tx_ext (tx_list _)
theorem tx_app (u v : List Nat) : tx u ++ tx v = tx (u ++ v) := tx_ext (by rw [KT.app_list, tx_list, tx_list, tx_list])
theorem tx_len (l : List Nat) : (tx l).length = l.length := by
  have : (tx l).cps.toList.length = (tx l).length := Array.length_toList
  rw [← this, tx_list]
theorem lit_e : PySem.Str.ofString "e" = tx [101] := by rw [tx_def]; decide +kernel
theorem lit_dot : PySem.Str.ofString "." = tx [46] := by rw [tx_def]; decide +kernel
theorem lit_zero : PySem.Str.ofString "0" = tx [48] := by rw [tx_def]; decide +kernel
theorem lit_zdot : PySem.Str.ofString "0." = tx [48, 46] := by rw [tx_def]; decide +kernel
theorem lit_none : PySem.Str.ofString "" = tx [] := by rw [tx_def]; decide +kernel
theorem lit_minus : PySem.Str.ofString "-" = tx [45] := by rw [tx_def]; decide +kernel
theorem lit_plus : PySem.Str.ofString "+" = tx [43] := by rw [tx_def]; decide +kernel
theorem lit_empty : PySem.Str.empty = tx [] := by rw [tx_def]; rfl
theorem slice_to {l : List Nat} {j : Int} (h0 : 0 ≤ j) (h1 : j ≤ l.length) : Txt.slice (tx l) none (some j) = tx (l.take j.toNat) := by
  have h := StrLaws.sliceText_to (x := tx l) (j := j) ⟨h0, by rw [tx_list]; exact h1⟩
  rw [tx_list, List.drop_zero, Int.sub_zero] at h
  rw [tx_def (l.take j.toNat)]
  exact h
theorem slice_from {l : List Nat} {i : Int} (h0 : 0 ≤ i) (h1 : i ≤ l.length) : Txt.slice (tx l) (some i) none = tx (l.drop i.toNat) := by
  have h := StrLaws.sliceText_from (x := tx l) (i := i) ⟨h0, by rw [tx_list]; exact h1⟩
  rw [tx_list] at h
  have e : (l.drop i.toNat).take ((l.length : Int) - i).toNat = l.drop i.toNat := List.take_of_length_le (by rw [List.length_drop]; omega)
  rw [e] at h
  rw [tx_def (l.drop i.toNat)]
  exact h
theorem slice_none : Txt.slice (tx []) (some 1) none = tx [] ∧ Txt.slice (tx []) none (some 1) = tx [] := by
  rw [tx_def]
  constructor <;> decide +kernel
theorem mul_zero_tx (n : Int) : Txt.mul (tx [48]) n = tx (List.replicate n.toNat 48) := tx_ext (by
  rw [tx_list, tx_def]
  exact mul_one_list 48 n)
theorem at_iff {l : List Nat} {c i : Nat} : StrLaws.At (tx l) (tx [c]) (tx l).length i ↔ l[i]? = some c := by
  unfold StrLaws.At
  rw [StrLaws.subAt_eq, tx_list, tx_list, tx_len, tx_len, beq_iff_eq]
  constructor
  · rintro ⟨h1, h2⟩
    have h3 := congrArg (fun z => z[0]?) h2
    simpa using h3
  · intro h
    have hi : i < l.length := by
      rcases Nat.lt_or_ge i l.length with q | q
      · exact q
      · rw [List.getElem?_eq_none q] at h; cases h
    refine ⟨by simp only [List.length_cons, List.length_nil]; omega, ?_⟩
    rw [List.drop_eq_getElem_cons hi]
    rw [List.getElem?_eq_getElem hi] at h
    simp only [List.length_cons, List.length_nil, List.take_succ_cons, List.take_zero]
    rw [Option.some.inj h]
theorem sub_tx (l : List Nat) (i j : Nat) : Builtin.Str.strSub (tx l) i j = tx ((l.drop i).take (j - i)) := tx_ext (by
  show ((tx l).cps.extract i j).toList = _
  rw [Array.toList_extract, tx_list, tx_list, List.extract_eq_take_drop])
theorem part_miss {l : List Nat} {c : Nat} (h : c ∉ l) : Txt.partition (tx l) (tx [c]) = (tx l, tx [], tx []) := by
  rcases partition_whole (tx l) (tx [c]) with ⟨e, _⟩ | ⟨i, _, hat, _⟩
  · rw [e, lit_empty]
  · exact absurd (List.mem_of_getElem? (at_iff.mp hat)) h
theorem part_hit {u v : List Nat} {c : Nat} (h : c ∉ u) : Txt.partition (tx (u ++ c :: v)) (tx [c]) = (tx u, tx [c], tx v) := by
  have hu : (u ++ c :: v)[u.length]? = some c := by simp
  rcases partition_whole (tx (u ++ c :: v)) (tx [c]) with ⟨_, hn⟩ | ⟨i, e, hat, hmin⟩
  · exact absurd (at_iff.mpr hu) (hn u.length)
  · have hi : i = u.length := by
      rcases Nat.lt_trichotomy i u.length with q | q | q
      · have := at_iff.mp hat
        rw [List.getElem?_append_left q] at this
        exact absurd (List.mem_of_getElem? this) h
      · exact q
      · exact absurd (at_iff.mpr hu) (hmin u.length q)
    subst hi
    rw [e, sub_tx, sub_tx, tx_len, tx_len]
    have e1 : ((u ++ c :: v).drop 0).take (u.length - 0) = u := by simp
    have e0 : u ++ c :: v = (u ++ [c]) ++ v := by simp
    have e2 : ((u ++ c :: v).drop (u.length + [c].length)).take ((u ++ c :: v).length - (u.length + [c].length)) = v := by
      rw [e0, List.drop_left' (by simp), List.take_of_length_le (by simp only [List.length_append, List.length_cons, List.length_nil]; omega)]
    rw [e1, e2]
theorem lstrip_tx (l : List Nat) : Txt.lstripChars (tx l) (tx [48]) = tx (l.dropWhile (· == 48)) := by
  have hg : (tx [48]).cps.contains = fun c : Nat => c == 48 := by
    funext c
    rw [tx_def]
    show (#[48] : Array Nat).contains c = _
    simp [Array.contains]
  unfold Txt.lstripChars
  rw [hg, PyProof.Rows.stripBy_eq, sub_tx]
  refine congrArg tx ?_
  have e1 : PySem.stripLo (fun c : Nat => c == 48) true (tx l) = (l.takeWhile fun c => c == 48).length := by
    show ((tx l).cps.toList.takeWhile _).length = _
    rw [tx_list]
  have e2 : ∀ lo, PySem.stripHi (fun c : Nat => c == 48) false (tx l) lo = l.length := fun lo => by
    show (tx l).length = _
    rw [tx_len]
  rw [e1, e2]
  have e3 : l.drop (l.takeWhile fun c => c == 48).length = l.dropWhile fun c => c == 48 := by
    have h := List.takeWhile_append_dropWhile (p := fun c : Nat => c == 48) (l := l)
    conv => lhs; rw [← h]; 
    rw [List.drop_append]
    simp
  rw [e3]
  refine List.take_of_length_le ?_
  have h := congrArg List.length (List.takeWhile_append_dropWhile (p := fun c : Nat => c == 48) (l := l))
  rw [List.length_append] at h
  omega
section
open PySem.NumText
/-- the figures of a whole number -/
@[irreducible] def dig (n : Int) : List Nat := (Nat.toDigits 10 n.toNat).map Char.toNat
theorem dig_def (n : Int) : dig n = (Nat.toDigits 10 n.toNat).map Char.toNat := by unfold dig; rfl
theorem num_tx {n : Int} (h : 0 ≤ n) : PySem.Str.ofString (toString n) = tx (dig n) := by
  obtain ⟨m, rfl⟩ := Int.eq_ofNat_of_zero_le h
  refine tx_ext ?_
  rw [tx_list, KIN.signs_num, dig_def]
  rfl
theorem dig_all (n : Int) : AllDigits (dig n) := by
  intro c hc
  rw [dig_def] at hc
  obtain ⟨ch, hch, e⟩ := List.mem_map.mp hc
  rw [← e]
  exact digit_range (Nat.isDigit_of_mem_toDigits (by decide) (by decide) hch)
theorem dig_val {n : Int} (h : 0 ≤ n) : ((digitsVal (dig n) : Nat) : Int) = n := by
  rw [dig_def, KIN.val_back]
  exact Int.toNat_of_nonneg h
theorem dig_len {n : Int} (h : 0 ≤ n) : ((dig n).length : Int) = nd n := by
  unfold nd
  rw [num_tx h, tx_len]
theorem dig_ne (n : Int) : dig n ≠ [] := by
  rw [dig_def]
  intro e
  exact Nat.toDigits_ne_nil (List.map_eq_nil_iff.mp e)
theorem head_dig : ∀ m : Nat, 0 < m → ∃ c r, (Nat.toDigits 10 m).map Char.toNat = c :: r ∧ c ≠ 48 := by
  intro m
  induction m using Nat.strongRecOn with
  | _ m ih =>
    intro hm
    by_cases h : m < 10
    · rw [Nat.toDigits_of_lt_base h]
      refine ⟨(Nat.digitChar m).toNat, [], rfl, ?_⟩
      have : ∀ d : Nat, d < 10 → 0 < d → (Nat.digitChar d).toNat ≠ 48 := by decide
      exact this m h hm
    · obtain ⟨c, r, e, hc⟩ := ih (m / 10) (by omega) (by omega)
      have t : Nat.toDigits 10 (m / 10) ++ Nat.toDigits 10 (m % 10) = Nat.toDigits 10 (10 * (m / 10) + m % 10) := Nat.toDigits_append_toDigits (by decide) (by omega) (Nat.mod_lt m (by decide))
      rw [Nat.div_add_mod] at t
      rw [← t, List.map_append, e]
      exact ⟨c, _, rfl, hc⟩
theorem dig_head {n : Int} (h : 0 < n) : ∃ c r, dig n = c :: r ∧ c ≠ 48 := by
  rw [dig_def]
  exact head_dig n.toNat (by omega)
theorem nd_of {n : Int} {k : Nat} (hk : 1 ≤ k) (h0 : 10 ^ (k - 1) ≤ n) (h1 : n < 10 ^ k) : nd n = k := by
  have hp := ten_pos' (k - 1)
  have h2 := nd_hi (n := n) (by omega)
  have h3 := nd_lo (n := n) (by omega)
  have h4 := nd_pos (n := n) (by omega)
  have a : ¬ (nd n).toNat ≤ k - 1 := fun q => by have := ten_mono q; omega
  have b : ¬ k ≤ (nd n - 1).toNat := fun q => by have := ten_mono q; omega
  omega
theorem val_zeros (l : List Nat) : digitsVal (l.dropWhile (· == 48)) = digitsVal l := by
  induction l with
  | nil => rfl
  | cons c l ih =>
    rw [List.dropWhile_cons]
    by_cases h : c = 48
    · subst h
      rw [if_pos (by rfl), ih]
      exact digitsVal_zero.symm
    · rw [if_neg (by simpa using h)]
theorem val_rep (k : Nat) (l : List Nat) : digitsVal (List.replicate k 48 ++ l) = digitsVal l := by
  induction k with
  | zero => rfl
  | succ k ih =>
    rw [List.replicate_succ, List.cons_append, digitsVal_zero]
    exact ih
theorem all_app {u v : List Nat} (hu : AllDigits u) (hv : AllDigits v) : AllDigits (u ++ v) := fun c hc => (List.mem_append.mp hc).elim (hu c) (hv c)
theorem all_rep (k : Nat) : AllDigits (List.replicate k 48) := fun c hc => by rw [(List.mem_replicate.mp hc).2]; decide
theorem all_drop {l : List Nat} (h : AllDigits l) : AllDigits (l.dropWhile (· == 48)) := fun c hc => h c ((List.dropWhile_sublist _).mem hc)
theorem all_take {l : List Nat} (h : AllDigits l) (k : Nat) : AllDigits (l.take k) := fun c hc => h c (List.mem_of_mem_take hc)
theorem all_dropN {l : List Nat} (h : AllDigits l) (k : Nat) : AllDigits (l.drop k) := fun c hc => h c (List.mem_of_mem_drop hc)
theorem free_of {l : List Nat} (h : AllDigits l) {c : Nat} (hc : c < 48 ∨ 57 < c) : c ∉ l := fun m => by have := h c m; omega
/-- int("0" + figures) -/
theorem reads {l : List Nat} (h : AllDigits l) (hl : l.length ≤ 600) : PySem.intText? (PySem.Str.ofString "0" ++ tx l) = some ((digitsVal l : Nat) : Int) := by
  rw [lit_zero, tx_app]
  have e := intText_digits (x := tx ([48] ++ l)) (by rw [tx_list]; exact all_app (all_rep 1) h) (by rw [tx_list]; simp) (by rw [tx_len]; simp only [List.length_append, List.length_cons, List.length_nil]; omega)
  rw [tx_list] at e
  rw [e]
  rfl
theorem ln_tx {l : List Nat} {k : Nat} (h : l.length ≤ k) : Ln k (tx l) := ⟨by rw [tx_len]; exact h⟩
/-- what law's helper tells of a text -/
structure Tells (x fg : PySem.Str) (n p : Int) : Prop where
  out : ∃ (ah s1 bh wh pt pr : PySem.Str) (e : Int), Ln 500 x ∧ Ln 500 ah ∧ Ln 500 bh ∧ Ln 200 wh ∧ Ln 200 pr ∧ Ln 500 fg ∧
    (Txt.partition x (PySem.Str.ofString "e")).1 = ah ∧ (Txt.partition x (PySem.Str.ofString "e")).2.1 = s1 ∧ (Txt.partition x (PySem.Str.ofString "e")).2.2 = bh ∧
    (Txt.partition ah (PySem.Str.ofString ".")).1 = wh ∧ (Txt.partition ah (PySem.Str.ofString ".")).2.1 = pt ∧ (Txt.partition ah (PySem.Str.ofString ".")).2.2 = pr ∧
    Txt.lstripChars (wh ++ pr) (PySem.Str.ofString "0") = fg ∧ PySem.intText? (PySem.Str.ofString "0" ++ fg) = some n ∧
    PySem.intText? (PySem.Str.ofString "0" ++ Txt.slice bh (some 1) none) = some e ∧
    p = e * (if Txt.slice bh none (some 1) == PySem.Str.ofString "-" then -1 else 1) - (pr.length : Int)
theorem tells_lists {x : PySem.Str} {W P : List Nat} {n p : Int} {ah bh : List Nat} {s1 : PySem.Str} {e : Int} (hx : x = tx (ah ++ bh) ∧ s1 = tx [] ∧ bh = [] ∨ x = tx (ah ++ 101 :: bh) ∧ s1 = tx [101])
    (ha : ah = W ++ 46 :: P ∨ (ah = W ∧ P = [])) (hW : AllDigits W) (hP : AllDigits P) (lW : W.length ≤ 180) (lP : P.length ≤ 180) (lb : bh.length ≤ 100) (hn : ((digitsVal (W ++ P) : Nat) : Int) = n)
    (he : PySem.intText? (PySem.Str.ofString "0" ++ Txt.slice (tx bh) (some 1) none) = some e) (hp : p = e * (if Txt.slice (tx bh) none (some 1) == PySem.Str.ofString "-" then -1 else 1) - (P.length : Int)) :
    Tells x (tx ((W ++ P).dropWhile (· == 48))) n p := by
  have hWP := all_app hW hP
  have la : ah.length ≤ 361 := by
    rcases ha with rfl | ⟨rfl, rfl⟩
    · simp only [List.length_append, List.length_cons]; omega
    · omega
  have fa : 101 ∉ ah := by
    rcases ha with rfl | ⟨rfl, rfl⟩
    · intro m
      rcases List.mem_append.mp m with m | m
      · exact free_of hW (.inr (by decide)) m
      · rcases List.mem_cons.mp m with m | m
        · exact absurd m (by decide)
        · exact free_of hP (.inr (by decide)) m
    · exact free_of hW (.inr (by decide))
  have px : Txt.partition x (PySem.Str.ofString "e") = (tx ah, s1, tx bh) := by
    rw [lit_e]
    rcases hx with ⟨rfl, rfl, rfl⟩ | ⟨rfl, rfl⟩
    · rw [List.append_nil, part_miss fa]
    · rw [part_hit fa]
  have lx : Ln 500 x := by
    rcases hx with ⟨rfl, rfl, rfl⟩ | ⟨rfl, rfl⟩
    · exact ln_tx (by simp only [List.length_append, List.length_nil]; omega)
    · exact ln_tx (by simp only [List.length_append, List.length_cons]; omega)
  have pa : ∃ pt, Txt.partition (tx ah) (PySem.Str.ofString ".") = (tx W, pt, tx P) := by
    rw [lit_dot]
    have fW : 46 ∉ W := free_of hW (.inl (by decide))
    rcases ha with rfl | ⟨rfl, rfl⟩
    · exact ⟨_, part_hit fW⟩
    · exact ⟨_, part_miss fW⟩
  obtain ⟨pt, pa⟩ := pa
  have ld : ((W ++ P).dropWhile (· == 48)).length ≤ 360 := by
    have := (List.dropWhile_sublist (l := W ++ P) (· == 48)).length_le
    rw [List.length_append] at this
    omega
  refine ⟨tx ah, s1, tx bh, tx W, pt, tx P, e, lx, ln_tx (by omega), ln_tx (by omega), ln_tx (by omega), ln_tx (by omega), ln_tx (by omega), by rw [px], by rw [px], by rw [px], by rw [pa], by rw [pa], by rw [pa], ?_, ?_, he, ?_⟩
  · rw [tx_app, lit_zero, lstrip_tx]
  · rw [reads (all_drop hWP) (by omega), val_zeros, hn]
  · rw [tx_len]; exact hp
theorem none_e : PySem.intText? (PySem.Str.ofString "0" ++ Txt.slice (tx []) (some 1) none) = some 0 := by
  rw [slice_none.1, reads (l := []) (fun c hc => nomatch hc) (by decide)]
  rfl
/-- a text without an exponent -/
theorem tells_plain {x : PySem.Str} {W P : List Nat} {n : Int} (hx : x = tx (W ++ 46 :: P) ∨ (x = tx W ∧ P = [])) (hW : AllDigits W) (hP : AllDigits P) (lW : W.length ≤ 180) (lP : P.length ≤ 180) (hn : ((digitsVal (W ++ P) : Nat) : Int) = n) :
    Tells x (tx ((W ++ P).dropWhile (· == 48))) n (-(P.length : Int)) := by
  rcases hx with rfl | ⟨rfl, rfl⟩
  · exact tells_lists (ah := W ++ 46 :: P) (bh := []) (.inl ⟨by rw [List.append_nil], rfl, rfl⟩) (.inl rfl) hW hP lW lP (by decide) hn none_e (by omega)
  · exact tells_lists (ah := W) (bh := []) (.inl ⟨by rw [List.append_nil], rfl, rfl⟩) (.inr ⟨rfl, rfl⟩) hW hP lW lP (by decide) hn none_e (by omega)
end
variable {w : World} {mean : ExcName → Option Value} {mg mb : Str → Option Value}
local macro_rules | `(tactic| walk_at "binaryOp FloorDiv int int") => `(tactic| (k_here; (with_reducible refine floordiv_int ?kbe ?_ (Or.inl (PyProof.noPylong_of_log2 ?kbp))); (case kbe => ktr_rel); (case kbp => ktr_rel)))
local macro_rules | `(tactic| walk_at "call type:str") => `(tactic| (k_here; (with_reducible show wpAny _ _ (call (Value.type "str") [Value.int _ _]) _ _ _); (refine P.str_of_int ?kbe ?_); (case kbe => ktr_rel)))
local macro_rules | `(tactic| walk_at "call builtin:len") => `(tactic| (k_here; (with_reducible show wpAny _ _ (call (Value.builtin "len") [Value.str _ _]) _ _ _); first | ((refine P.len_str ?kbe ?_); (case kbe => ktr_rel)) | ((refine' lenS ?sa ?sb ?_); (case sa => ktr_rel); (case sb => decide))))
local macro_rules | `(tactic| walk_at "binaryOp Pow int int") => `(tactic| (k_here; (with_reducible refine pow_int_small ?kb1 ?kb2 ?kb3 ?_); (case kb1 => ktr_rel); (case kb2 => ktr_rel); (case kb3 => decide)))
local macro_rules | `(tactic| walk_at "binaryOp Mult int int") => `(tactic| (k_here; (with_reducible refine mul_int ?_ ?kb1); rotate_left; (case kb1 => ktr_rel)))
local macro_rules | `(tactic| walk_at "binaryOp Add str str") => `(tactic| (k_here; (refine' addS ?sa ?sb ?sc ?_); (case sa => ktr_rel); (case sb => ktr_rel); (case sc => decide); intro _ _))
local macro_rules | `(tactic| ktr_rel) => `(tactic| first
  | with_reducible assumption
  | exact Ln.mk (k := 2) (by decide)
  | (refine' Ln.app ?sa ?sb; (case sa => ktr_rel); (case sb => ktr_rel))
  | (refine' Ln.sl ?sa; (case sa => ktr_rel))
  | (refine' Ln.ite ?sa ?sb; (case sa => ktr_rel); (case sb => ktr_rel))
  | (refine' Ln.num ?sa ?sb; (case sa => omega); (case sb => omega))
  | (refine' Sm.ne2 ?sa; (case sa => omega))
  | (refine' Sm.log ?sa 9000 ?sb ?sc; (case sa => ktr_rel); (case sb => decide); (case sc => decide))
  | (refine' Sm.log ?sa 1920 ?sb ?sc; (case sa => ktr_rel); (case sb => decide); (case sc => decide))
  | (refine' Sm.mulok ?sa ?sb ?sc; (case sa => ktr_rel); (case sb => ktr_rel); (case sc => decide))
  | (refine' Sm.pow10 ?sa; (case sa => omega))
  | exact Sm.of (k := 2) (by decide) (by decide)
  | (refine' Sm.mul ?sa ?sb; (case sa => ktr_rel); (case sb => ktr_rel))
  | (refine' Int.mul_pos ?sa ?sb; (case sa => ktr_rel); (case sb => ktr_rel))
  | (refine' ten_pos _)
  | (with_reducible decide)
  | omega)
local macro_rules | `(tactic| tb_start) => `(tactic| first | exact fun _ h => h | exact fun _ h => .tail _ h | exact fun _ h => .tail _ (.tail _ h) | exact fun _ h => .tail _ (.tail _ (.tail _ h)))
local macro_rules | `(tactic| tb_rel) => `(tactic| first
  | ((refine' endI ?kh ?_ ?kF ?kN ?kS); (case kh => with_reducible assumption); (case kF => k_asm); (case kN => k_asm); (case kS => tb_start))
  | ((refine' endS ?kh ?_ ?kF ?kN ?kS); (case kh => with_reducible assumption); (case kF => k_asm); (case kN => k_asm); (case kS => tb_start))
  | ((refine' endB ?kh ?_ ?kF ?kN ?kS); (case kh => with_reducible assumption); (case kF => k_asm); (case kN => k_asm); (case kS => tb_start))
  | ((refine' endT ?kh ?_ ?kF ?kN ?kS); (case kh => with_reducible assumption); (case kF => k_asm); (case kN => k_asm); (case kS => tb_start)))
theorem c_half_up {top bottom : Int} {t1 t2 : Tok} {k : Nat} (h : 0 < bottom) (sb : Sm k bottom) (hk8 : k ≤ 8000) : Con w mean mg mb 140 1 [.int top t1, .int bottom t2] (OutI (hu top bottom)) := by
  have hlog : (2 * bottom).natAbs.log2 < 9000 := Sm.log (Sm.mul (Sm.of (k := 2) (by decide) (by decide)) sb) 9000 (by omega) (by decide)
  w_top off; unfold Con PR; k_fill; intro dp un gd cn cs a ccd cl outer A₀ base h₀ L m news s Q E B F X N T hk hd hu hret; refine wpAny_call ?_; (k_dflt cell_enter)
  k_steps
  all_goals tb_rel
  all_goals rfl
theorem c_decimal_place {top bottom : Int} {t1 t2 : Tok} (sa : Sm 400 top) (sb : Sm 400 bottom)
    (h1 : (PySem.Str.ofString (toString top)).length ≤ 100) (h2 : (PySem.Str.ofString (toString bottom)).length ≤ 100) : Con w mean mg mb 70 1 [.int top t1, .int bottom t2] (OutI (dpl top bottom)) := by
  w_top off; unfold Con PR; k_fill; intro dp un gd cn cs a ccd cl outer A₀ base h₀ L m news s Q E B F X N T hk hd hu hret; refine wpAny_call ?_; (k_dflt cell_enter)
  k_steps
  all_goals tb_rel
  all_goals (unfold dpl nd)
  · rw [if_pos (by constructor <;> assumption)]
  · rw [if_neg (by intro h; exact absurd h.2 (by assumption)), if_neg (by omega)]
  · rw [if_neg (by omega), if_pos (by constructor <;> omega)]
  · rw [if_neg (by omega), if_neg (by intro h; exact absurd h.2 (by assumption))]
def OutN (v : Value) (tl : List (Addr × Obj)) : Prop := v = .none ∧ tl = []
theorem useN {f : Addr} {k : Nat} {vs : List Value} {dp un : Nat} {gd : Option (List Code)} {cn : Str} {cs : Scope} {a : Addr} {ccd : Value} {cl : List (Str × Addr)} {outer : List Env} {A₀ : Around} {base h₀ : Heap} {L : Addr} {m : Str → Option Value} {news : List (Addr × Obj)} {s : Shared} {Q E : Value → Shared → Prop}
    (C : Con w mean mg mb f k vs OutN)
    (B : Below A₀ base outer h₀) (F : Fr h₀ L s.heap m) (X : (hd.heap_39 w.params).In h₀) (N : News h₀ L s.heap news) (T : Top hd.view_39 LO mean mg mb h₀) (hk : cs.kind = .function) (hd : dp + k < recursionLimit) (hu : un + 8 * k < cLine)
    (ret : ∀ (h' : Heap) (tk' : Nat), Fr h₀ L h' m → News h₀ L h' news → Q .none { s with heap := h', toks := tk' }) :
    wpAny (model PR w) (ktrTop dp un gd cn cs L a ccd cl outer) (call (.ref f) vs) Q E s :=
  C dp un gd cn cs a ccd cl outer A₀ base h₀ L m news s Q E B F X N T hk hd hu fun v tl h' tk' hP F' N' => by
    obtain ⟨rfl, rfl⟩ := hP
    exact ret h' tk' F' N'
theorem endN {h₀ h' : Heap} {L : Addr} {m : Str → Option Value} {news news' : List (Addr × Obj)} {s : Shared} {Q : Value → Shared → Prop} {tk' : Nat} (hret : ∀ (v : Value) (tl : List (Addr × Obj)) (h' : Heap) (tk' : Nat), OutN v tl → Fr h₀ L h' m → News h₀ L h' (tl ++ news) → Q v { s with heap := h', toks := tk' })
    (F : Fr h₀ L h' m) (N : News h₀ L h' news') (hs : ∀ p ∈ news, p ∈ news') : Q .none { s with heap := h', toks := tk' } :=
  hret _ [] h' tk' ⟨rfl, rfl⟩ F fun p hp => N p (hs p hp)
local macro_rules | `(tactic| tb_rel) => `(tactic| ((refine' endN ?kh ?kF ?kN ?kS); (case kh => with_reducible assumption); (case kF => k_asm); (case kN => k_asm); (case kS => tb_start)))
theorem c_is_nan {b : Int} {t : Tok} (hb : InB b) : Con w mean mg mb 28 1 [.int b t] (OutB false) := by
  w_top off; unfold Con PR; k_fill; intro dp un gd cn cs a ccd cl outer A₀ base h₀ L m news s Q E B F X N T hk hd hu hret; refine wpAny_call ?_; (k_dflt cell_enter)
  k_steps
  all_goals tb_rel
  rw [inb_all hb]
  have := hb.hi
  exact decide_eq_false (by omega)
theorem c_is_inf {b : Int} {t : Tok} (hb : InB b) : Con w mean mg mb 35 1 [.int b t] (OutB false) := by
  w_top off; unfold Con PR; k_fill; intro dp un gd cn cs a ccd cl outer A₀ base h₀ L m news s Q E B F X N T hk hd hu hret; refine wpAny_call ?_; (k_dflt cell_enter)
  k_steps
  all_goals tb_rel
  rw [inb_all hb]
  have := hb.hi
  exact decide_eq_false (by omega)
local macro_rules | `(tactic| walk_at "call ref") => `(tactic| (k_here; (with_reducible show wpAny _ _ (call (Value.ref 28) _) _ _ _); k_dflt (refine' useB (c_is_nan ?p1) ?k1 ?k2 ?k3 ?k4 ?k5 ?k6 ?k7 ?k8 ?_; (case p1 => ktr_rel); (case k1 => k_asm); (case k2 => k_asm); (case k3 => k_asm); (case k4 => k_asm); (case k5 => k_asm); (case k6 => first | exact rfl | with_reducible assumption); (case k7 => ktr_room); (case k8 => ktr_units)); intro h9 tk9 F9 N9; (try k_sweep); (try dsimp only); (try k_fold)))
local macro_rules | `(tactic| walk_at "call ref") => `(tactic| (k_here; (with_reducible show wpAny _ _ (call (Value.ref 35) _) _ _ _); k_dflt (refine' useB (c_is_inf ?p1) ?k1 ?k2 ?k3 ?k4 ?k5 ?k6 ?k7 ?k8 ?_; (case p1 => ktr_rel); (case k1 => k_asm); (case k2 => k_asm); (case k3 => k_asm); (case k4 => k_asm); (case k5 => k_asm); (case k6 => first | exact rfl | with_reducible assumption); (case k7 => ktr_room); (case k8 => ktr_units)); intro h9 tk9 F9 N9; (try k_sweep); (try dsimp only); (try k_fold)))
theorem c_without_figures {b : Int} {t : Tok} (hb : InB b) : Con w mean mg mb 119 2 [.int b t] OutN := by
  w_top off; unfold Con PR; k_fill; intro dp un gd cn cs a ccd cl outer A₀ base h₀ L m news s Q E B F X N T hk hd hu hret; refine wpAny_call ?_; (k_dflt cell_enter)
  k_steps
  all_goals tb_rel
theorem c_parts {b : Int} {t : Tok} (hb : InB b) : Con w mean mg mb 49 1 [.int b t] (OutIII 0 (mant b) (expo b)) := by
  w_top off; unfold Con PR; k_fill; intro dp un gd cn cs a ccd cl outer A₀ base h₀ L m news s Q E B F X N T hk hd hu hret; refine wpAny_call ?_; (k_dflt cell_enter)
  k_steps
  all_goals tb_rel
  · exfalso
    have := inb_exp hb
    have := hb.lo
    omega
  · rw [inb_sign hb, inb_mant, inb_expo hb]
    exact ⟨_, _, _, _, _, rfl, rfl⟩
local macro_rules | `(tactic| walk_at "call ref") => `(tactic| (k_here; (with_reducible show wpAny _ _ (call (Value.ref 49) _) _ _ _); k_dflt (refine' useIII (c_parts ?p1) ?k1 ?k2 ?k3 ?k4 ?k5 ?k6 ?k7 ?k8 ?_; (case p1 => ktr_rel); (case k1 => k_asm); (case k2 => k_asm); (case k3 => k_asm); (case k4 => k_asm); (case k5 => k_asm); (case k6 => first | exact rfl | with_reducible assumption); (case k7 => ktr_room); (case k8 => ktr_units)); intro D9 t9 u9 r9 c9 h9 tk9 F9 N9; (try k_sweep); (try dsimp only); (try k_fold)))
theorem c_exact {b : Int} {t : Tok} (hb : InB b) : Con w mean mg mb 56 2 [.int b t] (OutII (topOf b) (botOf b)) := by
  have h1 := mant_lo b
  have h2 := mant_hi b
  have h3 := expo_lo hb
  have h4 := expo_hi hb
  w_top off; unfold Con PR; k_fill; intro dp un gd cn cs a ccd cl outer A₀ base h₀ L m news s Q E B F X N T hk hd hu hret; refine wpAny_call ?_; (k_dflt cell_enter)
  k_steps
  all_goals tb_rel
  · rw [topOf_p (by assumption), botOf_p (by assumption)]
    exact ⟨_, _, _, _, rfl, rfl⟩
  · rw [topOf_n (by assumption), botOf_n (by assumption)]
    exact ⟨_, _, _, _, rfl, rfl⟩
local macro_rules | `(tactic| walk_at "call ref") => `(tactic| (k_here; (with_reducible show wpAny _ _ (call (Value.ref 56) _) _ _ _); k_dflt (refine' useII (c_exact ?p1) ?k1 ?k2 ?k3 ?k4 ?k5 ?k6 ?k7 ?k8 ?_; (case p1 => ktr_rel); (case k1 => k_asm); (case k2 => k_asm); (case k3 => k_asm); (case k4 => k_asm); (case k5 => k_asm); (case k6 => first | exact rfl | with_reducible assumption); (case k7 => ktr_room); (case k8 => ktr_units)); intro D9 t9 u9 c9 h9 tk9 F9 N9; (try k_sweep); (try dsimp only); (try k_fold)))
theorem c_sign_and_ratio {b : Int} {t : Tok} (hb : InB b) : Con w mean mg mb 133 3 [.int b t] (OutSII (PySem.Str.ofString "") (topOf b) (botOf b)) := by
  have h1 := topOf_pos b
  w_top off; unfold Con PR; k_fill; intro dp un gd cn cs a ccd cl outer A₀ base h₀ L m news s Q E B F X N T hk hd hu hret; refine wpAny_call ?_; (k_dflt cell_enter)
  k_steps
  all_goals tb_rel
  rw [if_neg (by omega)]
  exact ⟨_, _, _, _, _, rfl, rfl⟩
local macro_rules | `(tactic| walk_at "call ref") => `(tactic| (k_here; (with_reducible show wpAny _ _ (call (Value.ref 119) _) _ _ _); k_dflt (refine' useN (c_without_figures ?p1) ?k1 ?k2 ?k3 ?k4 ?k5 ?k6 ?k7 ?k8 ?_; (case p1 => ktr_rel); (case k1 => k_asm); (case k2 => k_asm); (case k3 => k_asm); (case k4 => k_asm); (case k5 => k_asm); (case k6 => first | exact rfl | with_reducible assumption); (case k7 => ktr_room); (case k8 => ktr_units)); intro h9 tk9 F9 N9; (try k_sweep); (try dsimp only); (try k_fold)))
local macro_rules | `(tactic| walk_at "call ref") => `(tactic| (k_here; (with_reducible show wpAny _ _ (call (Value.ref 133) _) _ _ _); k_dflt (refine' useSII (c_sign_and_ratio ?p1) ?k1 ?k2 ?k3 ?k4 ?k5 ?k6 ?k7 ?k8 ?_; (case p1 => ktr_rel); (case k1 => k_asm); (case k2 => k_asm); (case k3 => k_asm); (case k4 => k_asm); (case k5 => k_asm); (case k6 => first | exact rfl | with_reducible assumption); (case k7 => ktr_room); (case k8 => ktr_units)); intro D9 t9 u9 r9 c9 h9 tk9 F9 N9; (try k_sweep); (try dsimp only); (try k_fold)))
local macro_rules | `(tactic| walk_at "call ref") => `(tactic| (k_here; (with_reducible show wpAny _ _ (call (Value.ref 140) _) _ _ _); k_dflt (refine' useI (c_half_up ?p1 ?p2 ?p3) ?k1 ?k2 ?k3 ?k4 ?k5 ?k6 ?k7 ?k8 ?_; (case p1 => ktr_rel); (case p2 => ktr_rel); (case p3 => ktr_rel); (case k1 => k_asm); (case k2 => k_asm); (case k3 => k_asm); (case k4 => k_asm); (case k5 => k_asm); (case k6 => first | exact rfl | with_reducible assumption); (case k7 => ktr_room); (case k8 => ktr_units)); intro t9 h9 tk9 F9 N9; (try k_sweep); (try dsimp only); (try k_fold)))
local macro_rules | `(tactic| walk_at "call ref") => `(tactic| (k_here; (with_reducible show wpAny _ _ (call (Value.ref 70) _) _ _ _); k_dflt (refine' useI (c_decimal_place ?p1 ?p2 ?p3 ?p4) ?k1 ?k2 ?k3 ?k4 ?k5 ?k6 ?k7 ?k8 ?_; (case p1 => ktr_rel); (case p2 => ktr_rel); (case p3 => ktr_rel); (case p4 => ktr_rel); (case k1 => k_asm); (case k2 => k_asm); (case k3 => k_asm); (case k4 => k_asm); (case k5 => k_asm); (case k6 => first | exact rfl | with_reducible assumption); (case k7 => ktr_room); (case k8 => ktr_units)); intro t9 h9 tk9 F9 N9; (try k_sweep); (try dsimp only); (try k_fold)))
theorem Sm.hu {j k : Nat} {t b : Int} (h : Sm j t) (g : Sm k b) : Sm (2 + j + k + 1) (hu t b) :=
  Sm.fdiv (Sm.add (Sm.mul (Sm.of (k := 2) (by decide) (by decide)) h) g)
local macro_rules | `(tactic| ktr_rel) => `(tactic| first | (refine' Sm.hu ?sa ?sb; (case sa => ktr_rel); (case sb => ktr_rel)) | (refine' Sm.fdiv ?sa; (case sa => ktr_rel)))
theorem c_rounded {top bottom many : Int} {t1 t2 t3 : Tok} (hb : 0 < bottom) (sa : Sm 300 top) (sb : Sm 300 bottom)
    (h1 : (PySem.Str.ofString (toString top)).length ≤ 40) (h2 : (PySem.Str.ofString (toString bottom)).length ≤ 40) (m0 : 1 ≤ many) (m1 : many ≤ 21) :
    Con w mean mg mb 154 2 [.int top t1, .int bottom t2, .int many t3] (OutSI (PySem.Str.ofString (toString (rFig top bottom many))) (rExp top bottom many)) := by
  have d1 := dpl_bounds h1 h2
  have sa' : Sm 400 top := sa.mono (by decide)
  have sb' : Sm 400 bottom := sb.mono (by decide)
  w_top off; unfold Con PR; k_fill; intro dp un gd cn cs a ccd cl outer A₀ base h₀ L m news s Q E B F X N T hk hd hu hret; refine wpAny_call ?_; (k_dflt cell_enter)
  k_steps
  all_goals tb_rel
  all_goals (unfold rFig rExp)
  · rename (0 ≤ many - 1 - _) => g1
    rename ((10 : Int) ^ _ ≤ Mine.hu _ _) => g2
    rw [rF_p g1, if_pos g2, if_pos g2]
    exact ⟨_, _, _, _, rfl, rfl⟩
  · rename (0 ≤ many - 1 - _) => g1
    rename (¬ (10 : Int) ^ _ ≤ Mine.hu _ _) => g2
    rw [rF_p g1, if_neg g2, if_neg g2]
    exact ⟨_, _, _, _, rfl, rfl⟩
  · rename (¬ 0 ≤ many - 1 - _) => g1
    rename ((10 : Int) ^ _ ≤ Mine.hu _ _) => g2
    rw [rF_n g1, if_pos g2, if_pos g2]
    exact ⟨_, _, _, _, rfl, rfl⟩
  · rename (¬ 0 ≤ many - 1 - _) => g1
    rename (¬ (10 : Int) ^ _ ≤ Mine.hu _ _) => g2
    rw [rF_n g1, if_neg g2, if_neg g2]
    exact ⟨_, _, _, _, rfl, rfl⟩
local macro_rules | `(tactic| walk_at "call ref") => `(tactic| (k_here; (with_reducible show wpAny _ _ (call (Value.ref 154) _) _ _ _); k_dflt (refine' useSI (c_rounded ?p1 ?p2 ?p3 ?p4 ?p5 ?p6 ?p7) ?k1 ?k2 ?k3 ?k4 ?k5 ?k6 ?k7 ?k8 ?_; (case p1 => ktr_rel); (case p2 => ktr_rel); (case p3 => ktr_rel); (case p4 => ktr_rel); (case p5 => ktr_rel); (case p6 => ktr_rel); (case p7 => ktr_rel); (case k1 => k_asm); (case k2 => k_asm); (case k3 => k_asm); (case k4 => k_asm); (case k5 => k_asm); (case k6 => first | exact rfl | with_reducible assumption); (case k7 => ktr_room); (case k8 => ktr_units)); intro D9 t9 u9 c9 h9 tk9 F9 N9; (try k_sweep); (try dsimp only); (try k_fold)))
@[irreducible] def sgE (e : Int) : PySem.Str := PySem.Str.ofString "e" ++ (if e < 0 then PySem.Str.ofString "-" else PySem.Str.ofString "+") ++ PySem.Str.ofString (toString (if e < 0 then -e else e))
theorem absS_ln {e : Int} (h0 : -100 ≤ e) (h1 : e ≤ 100) : Ln 60 (PySem.Str.ofString (toString (if e < 0 then -e else e))) := by
  split <;> exact Ln.num (by omega) (by omega)
theorem sgE_ln {e : Int} (h0 : -100 ≤ e) (h1 : e ≤ 100) : Ln 100 (sgE e) := by
  have := absS_ln h0 h1
  unfold sgE
  refine Ln.mono (j := 2 + 2 + 60) ?_ (by decide)
  ktr_rel
theorem sgE_n {e : Int} (h : e < 0) : sgE e = PySem.Str.ofString "e" ++ PySem.Str.ofString "-" ++ PySem.Str.ofString (toString (if e < 0 then -e else e)) := by
  unfold sgE; rw [if_pos h]
theorem sgE_p {e : Int} (h : ¬ e < 0) : sgE e = PySem.Str.ofString "e" ++ PySem.Str.ofString "+" ++ PySem.Str.ofString (toString (if e < 0 then -e else e)) := by
  unfold sgE; rw [if_neg h]
theorem c_signed_exponent {e : Int} {t : Tok} (h0 : -100 ≤ e) (h1 : e ≤ 100) : Con w mean mg mb 98 1 [.int e t] (OutS (sgE e)) := by
  have hs : Sm 10 (if e < 0 then -e else e) := by
    split <;> exact Sm.of (by omega) (by omega)
  have hl := absS_ln h0 h1
  w_top off; unfold Con PR; k_fill; intro dp un gd cn cs a ccd cl outer A₀ base h₀ L m news s Q E B F X N T hk hd hu hret; refine wpAny_call ?_; (k_dflt cell_enter)
  k_steps
  all_goals tb_rel
  · exact (sgE_n (by assumption)).symm
  · exact (sgE_p (by assumption)).symm
local macro_rules | `(tactic| walk_at "call ref") => `(tactic| (k_here; (with_reducible show wpAny _ _ (call (Value.ref 98) _) _ _ _); k_dflt (refine' useS (c_signed_exponent ?p1 ?p2) ?k1 ?k2 ?k3 ?k4 ?k5 ?k6 ?k7 ?k8 ?_; (case p1 => ktr_rel); (case p2 => ktr_rel); (case k1 => k_asm); (case k2 => k_asm); (case k3 => k_asm); (case k4 => k_asm); (case k5 => k_asm); (case k6 => first | exact rfl | with_reducible assumption); (case k7 => ktr_room); (case k8 => ktr_units)); intro t9 h9 tk9 F9 N9; (try k_sweep); (try dsimp only); (try k_fold)))
@[irreducible] def wexp (x : PySem.Str) (e : Int) : PySem.Str := Txt.slice x none (some 1) ++ (if 1 < (x.length : Int) then PySem.Str.ofString "." ++ Txt.slice x (some 1) none else PySem.Str.ofString "") ++ sgE e
theorem wexp_p {x : PySem.Str} {e : Int} (h : 1 < (x.length : Int)) : wexp x e = Txt.slice x none (some 1) ++ (PySem.Str.ofString "." ++ Txt.slice x (some 1) none) ++ sgE e := by unfold wexp; rw [if_pos h]
theorem wexp_n {x : PySem.Str} {e : Int} (h : ¬ 1 < (x.length : Int)) : wexp x e = Txt.slice x none (some 1) ++ PySem.Str.ofString "" ++ sgE e := by unfold wexp; rw [if_neg h]
theorem wexp_ln {x : PySem.Str} {e : Int} (hx : Ln 60 x) (h0 : -100 ≤ e) (h1 : e ≤ 100) : Ln 400 (wexp x e) := by
  have := sgE_ln h0 h1
  unfold wexp
  by_cases h : 1 < (x.length : Int)
  · rw [if_pos h]
    refine Ln.mono (j := 60 + (2 + 60) + 100) ?_ (by decide)
    ktr_rel
  · rw [if_neg h]
    refine Ln.mono (j := 60 + 2 + 100) ?_ (by decide)
    ktr_rel
theorem c_with_exponent {x : PySem.Str} {e : Int} {t t2 : Tok} (hx : Ln 60 x) (h0 : -100 ≤ e) (h1 : e ≤ 100) : Con w mean mg mb 105 2 [.str x t, .int e t2] (OutS (wexp x e)) := by
  have hx' := hx.out
  have hl := sgE_ln h0 h1
  w_top off; unfold Con PR; k_fill; intro dp un gd cn cs a ccd cl outer A₀ base h₀ L m news s Q E B F X N T hk hd hu hret; refine wpAny_call ?_; (k_dflt cell_enter)
  k_steps
  all_goals tb_rel
  · exact (wexp_p (by assumption)).symm
  · exact (wexp_n (by assumption)).symm
local macro_rules | `(tactic| walk_at "call ref") => `(tactic| (k_here; (with_reducible show wpAny _ _ (call (Value.ref 105) _) _ _ _); k_dflt (refine' useS (c_with_exponent ?p1 ?p2 ?p3) ?k1 ?k2 ?k3 ?k4 ?k5 ?k6 ?k7 ?k8 ?_; (case p1 => ktr_rel); (case p2 => ktr_rel); (case p3 => ktr_rel); (case k1 => k_asm); (case k2 => k_asm); (case k3 => k_asm); (case k4 => k_asm); (case k5 => k_asm); (case k6 => first | exact rfl | with_reducible assumption); (case k7 => ktr_room); (case k8 => ktr_units)); intro t9 h9 tk9 F9 N9; (try k_sweep); (try dsimp only); (try k_fold)))
local macro_rules | `(tactic| walk_at "binaryOp Mult str int") => `(tactic| (k_here; (refine' mulS ?sa ?sb ?sc ?_); (case sa => decide); (case sb => ktr_rel); (case sc => ktr_rel); intro _ _))
local macro_rules | `(tactic| ktr_rel) => `(tactic| (refine' Ln.mulS ?sa ?sb; (case sa => decide); (case sb => ktr_rel)))
theorem c_to_exponential {b many : Int} {t1 t2 : Tok} (hb : InB b) (m0 : 0 ≤ many) (m1 : many ≤ 20) :
    Con w mean mg mb 161 5 [.int b t1, .int many t2] (OutS (PySem.Str.ofString "" ++ wexp (PySem.Str.ofString (toString (fig b (many + 1)))) (ex b (many + 1)))) := by
  have h1 := topOf_pos b
  have h2 := botOf_pos b
  have h3 : Sm 300 (topOf b) := ⟨Sm.topOf' hb⟩
  have h4 : Sm 300 (botOf b) := ⟨Sm.botOf' hb⟩
  have h5 := topOf_len hb
  have h6 := botOf_len hb
  have h7 : Ln 60 (PySem.Str.ofString (toString (fig b (many + 1)))) := fig_ln (by omega) (by omega)
  have h8 := ex_bounds (n := many + 1) hb
  have h9 := wexp_ln h7 h8.1 h8.2
  unfold fig ex at *
  w_top off; unfold Con PR; k_fill; intro dp un gd cn cs a ccd cl outer A₀ base h₀ L m news s Q E B F X N T hk hd hu hret; refine wpAny_call ?_; (k_dflt cell_enter)
  k_steps
  all_goals tb_rel
  · exfalso; omega
  · rfl
@[irreducible] def prec (x : PySem.Str) (e n : Int) : PySem.Str :=
  if e < -6 ∨ n ≤ e then PySem.Str.ofString "" ++ wexp x e
  else if e = n - 1 then PySem.Str.ofString "" ++ x
  else if 0 ≤ e then PySem.Str.ofString "" ++ Txt.slice x none (some (e + 1)) ++ PySem.Str.ofString "." ++ Txt.slice x (some (e + 1)) none
  else PySem.Str.ofString "" ++ PySem.Str.ofString "0." ++ Txt.mul (PySem.Str.ofString "0") (0 - e - 1) ++ x
theorem prec_1 {x : PySem.Str} {e n : Int} (h : e < -6 ∨ n ≤ e) : prec x e n = PySem.Str.ofString "" ++ wexp x e := by unfold prec; rw [if_pos h]
theorem prec_2 {x : PySem.Str} {e n : Int} (h : ¬ (e < -6 ∨ n ≤ e)) (h2 : e = n - 1) : prec x e n = PySem.Str.ofString "" ++ x := by unfold prec; rw [if_neg h, if_pos h2]
theorem prec_3 {x : PySem.Str} {e n : Int} (h : ¬ (e < -6 ∨ n ≤ e)) (h2 : e ≠ n - 1) (h3 : 0 ≤ e) : prec x e n = PySem.Str.ofString "" ++ Txt.slice x none (some (e + 1)) ++ PySem.Str.ofString "." ++ Txt.slice x (some (e + 1)) none := by unfold prec; rw [if_neg h, if_neg h2, if_pos h3]
theorem prec_4 {x : PySem.Str} {e n : Int} (h : ¬ (e < -6 ∨ n ≤ e)) (h2 : e ≠ n - 1) (h3 : ¬ 0 ≤ e) : prec x e n = PySem.Str.ofString "" ++ PySem.Str.ofString "0." ++ Txt.mul (PySem.Str.ofString "0") (0 - e - 1) ++ x := by unfold prec; rw [if_neg h, if_neg h2, if_neg h3]
theorem c_to_precision {b n : Int} {t1 t2 : Tok} (hb : InB b) (m0 : 1 ≤ n) (m1 : n ≤ 21) :
    Con w mean mg mb 168 5 [.int b t1, .int n t2] (OutS (prec (PySem.Str.ofString (toString (fig b n))) (ex b n) n)) := by
  have h1 := topOf_pos b
  have h2 := botOf_pos b
  have h3 : Sm 300 (topOf b) := ⟨Sm.topOf' hb⟩
  have h4 : Sm 300 (botOf b) := ⟨Sm.botOf' hb⟩
  have h5 := topOf_len hb
  have h6 := botOf_len hb
  have h7 : Ln 60 (PySem.Str.ofString (toString (fig b n))) := fig_ln (by omega) (by omega)
  have h7' := h7.out
  have h8 := ex_bounds (n := n) hb
  have h9 := wexp_ln h7 h8.1 h8.2
  unfold fig ex at *
  w_top off; unfold Con PR; k_fill; intro dp un gd cn cs a ccd cl outer A₀ base h₀ L m news s Q E B F X N T hk hd hu hret; refine wpAny_call ?_; (k_dflt cell_enter)
  k_steps
  all_goals tb_rel
  · exact (prec_1 (Or.inl (by assumption))).symm
  · exact (prec_1 (Or.inr (by assumption))).symm
  · exact (prec_2 (by omega) (by assumption)).symm
  · exact (prec_3 (by omega) (by assumption) (by assumption)).symm
  · exact (prec_4 (by omega) (by assumption) (by assumption)).symm
/-- the figures that to_fixed lays out -/
@[irreducible] def padd (x : PySem.Str) (many : Int) : PySem.Str := Txt.mul (PySem.Str.ofString "0") (many + 1 - (x.length : Int)) ++ x
@[irreducible] def fixS (x : PySem.Str) (many : Int) : PySem.Str :=
  if many = 0 then PySem.Str.ofString "" ++ x
  else PySem.Str.ofString "" ++ Txt.slice (padd x many) none (some (((padd x many).length : Int) - many)) ++ PySem.Str.ofString "." ++ Txt.slice (padd x many) (some (((padd x many).length : Int) - many)) none
theorem padd_eq (x : PySem.Str) (many : Int) : padd x many = Txt.mul (PySem.Str.ofString "0") (many + 1 - (x.length : Int)) ++ x := by unfold padd; rfl
theorem fixS_0 {x : PySem.Str} {many : Int} (h : many = 0) : fixS x many = PySem.Str.ofString "" ++ x := by unfold fixS; rw [if_pos h]
theorem fixS_1 {x : PySem.Str} {many : Int} (h : many ≠ 0) : fixS x many = PySem.Str.ofString "" ++ Txt.slice (padd x many) none (some (((padd x many).length : Int) - many)) ++ PySem.Str.ofString "." ++ Txt.slice (padd x many) (some (((padd x many).length : Int) - many)) none := by unfold fixS; rw [if_neg h]
theorem fix_in {b : Int} (hf : ¬ botOf b * 10 ^ Int.toNat 21 ≤ topOf b) : topOf b < botOf b * 10 ^ 21 := Int.not_le.mp hf
theorem padd_ln {x : PySem.Str} {many : Int} (h : Ln 60 x) (h1 : many ≤ 20) : Ln 160 (Txt.mul (PySem.Str.ofString "0") (many + 1 - (x.length : Int)) ++ x) :=
  Ln.app (Ln.mulS (by decide) (by omega)) h
local macro_rules | `(tactic| walk_at "call ref") => `(tactic| (k_here; (with_reducible show wpAny _ _ (call (Value.ref 126) _) _ _ _); exfalso; contradiction))
theorem c_to_fixed {b many : Int} {t1 t2 : Tok} (hb : InB b) (m0 : 0 ≤ many) (m1 : many ≤ 20) (hf : ¬ botOf b * 10 ^ Int.toNat 21 ≤ topOf b) :
    Con w mean mg mb 147 5 [.int b t1, .int many t2] (OutS (fixS (PySem.Str.ofString (toString (fixN b many))) many)) := by
  have h1 := topOf_pos b
  have h2 := botOf_pos b
  have h3 : Sm 300 (topOf b) := ⟨Sm.topOf' hb⟩
  have h4 : Sm 300 (botOf b) := ⟨Sm.botOf' hb⟩
  have h7 : Ln 60 (PySem.Str.ofString (toString (fixN b many))) := fixN_ln (fix_in hf) m0 m1
  have h7' := h7.out
  have h8 := padd_ln h7 m1
  have h8' := h8.out
  unfold fixN at *
  w_top off; unfold Con PR; k_fill; intro dp un gd cn cs a ccd cl outer A₀ base h₀ L m news s Q E B F X N T hk hd hu hret; refine wpAny_call ?_; (k_dflt cell_enter)
  k_steps
  all_goals tb_rel
  · exact (fixS_0 (by assumption)).symm
  · rw [fixS_1 (by assumption), padd_eq]
theorem Ln.line {k : Nat} {x : PySem.Str} (h : Ln k x) (hk : k ≤ 1000000) : x.length ≤ sizeLine := by
  have := h.out
  rw [sizeLine_eq]
  omega
theorem Ln.le640 {k : Nat} {x : PySem.Str} (h : Ln k x) (hk : k ≤ 640) : x.length ≤ 640 := Nat.le_trans h.out hk
local macro_rules | `(tactic| walk_at "call builtin:str.partition") => `(tactic| (k_here; (with_reducible show wpAny _ _ (call (Value.builtin "str.partition") [Value.str _ _, Value.str _ _]) _ _ _); (refine' KXpa.partition ?sa ?sb ?sc ?sd ?se ?sf ?sg ?_); (case sa => k_asm); (case sb => k_asm); (case sc => decide); (case sd => with_reducible assumption); (case se => with_reducible assumption); (case sf => with_reducible assumption); (case sg => ktr_rel); intro D9 t9 u9 r9 h9 k9 F9 N9 l9))
local macro_rules | `(tactic| walk_at "call builtin:str.lstrip") => `(tactic| (k_here; (with_reducible show wpAny _ _ (call (Value.builtin "str.lstrip") [Value.str _ _, Value.str _ _]) _ _ _); (refine' KXw.lstripChars ?sa ?sb ?_); (case sa => with_reducible assumption); (case sb => ktr_rel); intro _ _))
local macro_rules | `(tactic| walk_at "call type:int") => `(tactic| (k_here; (with_reducible show wpAny _ _ (call (Value.type "int") [Value.str _ _]) _ _ _); (refine' KIN.call_text ?sa ?sb ?_); (case sa => with_reducible assumption); (case sb => ktr_rel)))
local macro_rules | `(tactic| ktr_rel) => `(tactic| first | (refine' Ln.line ?sa ?sb; (case sa => ktr_rel); (case sb => decide)) | (refine' Ln.le640 ?sa ?sb; (case sa => ktr_rel); (case sb => decide)))
theorem c_told {x ah s1 bh wh pt pr fg : PySem.Str} {t : Tok} {n e : Int} (hx : Ln 500 x) (ha : Ln 500 ah) (hb : Ln 500 bh) (hw : Ln 200 wh) (hp : Ln 200 pr) (hf : Ln 500 fg)
    (e1 : (Txt.partition x (PySem.Str.ofString "e")).1 = ah) (e2 : (Txt.partition x (PySem.Str.ofString "e")).2.1 = s1) (e3 : (Txt.partition x (PySem.Str.ofString "e")).2.2 = bh)
    (e4 : (Txt.partition ah (PySem.Str.ofString ".")).1 = wh) (e5 : (Txt.partition ah (PySem.Str.ofString ".")).2.1 = pt) (e6 : (Txt.partition ah (PySem.Str.ofString ".")).2.2 = pr)
    (e7 : Txt.lstripChars (wh ++ pr) (PySem.Str.ofString "0") = fg) (e8 : PySem.intText? (PySem.Str.ofString "0" ++ fg) = some n)
    (e9 : PySem.intText? (PySem.Str.ofString "0" ++ Txt.slice bh (some 1) none) = some e) :
    Con w mean mg mb 175 1 [.str x t] (OutSII fg n (e * (if Txt.slice bh none (some 1) == PySem.Str.ofString "-" then -1 else 1) - (pr.length : Int))) := by
  have hb' := hb.out
  w_top off; unfold Con PR; k_fill; intro dp un gd cn cs a ccd cl outer A₀ base h₀ L m news s Q E B F X N T hk hd hu hret; refine wpAny_call ?_; (k_dflt cell_enter)
  k_steps
  all_goals tb_rel
  · rename ((_ == _) = true) => g
    rw [if_pos g]
    exact ⟨_, _, _, _, _, rfl, rfl⟩
  · rename ((_ == _) = false) => g
    rw [if_neg (by rw [g]; exact Bool.false_ne_true)]
    exact ⟨_, _, _, _, _, rfl, rfl⟩
def ConM (w : World) (mean : ExcName → Option Value) (mg mb : Str → Option Value) (f : Addr) (k : Nat) (vs : List Value) (D : Addr) (o : Obj) (P : Value → List (Addr × Obj) → Prop) : Prop :=
  ∀ (dp un : Nat) (gd : Option (List Code)) (cn : Str) (cs : Scope) (a : Addr) (ccd : Value) (cl : List (Str × Addr)) (outer : List Env) (A₀ : Around) (base h₀ : Heap) (L : Addr) (m : Str → Option Value) (news : List (Addr × Obj)) (s : Shared) (Q E : Value → Shared → Prop), (D, o) ∈ news →
    Below A₀ base outer h₀ → Fr h₀ L s.heap m → (hd.heap_39 w.params).In h₀ → News h₀ L s.heap news → Top hd.view_39 LO mean mg mb h₀ → cs.kind = .function → dp + k < recursionLimit → un + 8 * k < cLine →
    (∀ (v : Value) (tl : List (Addr × Obj)) (h' : Heap) (tk' : Nat), P v tl → Fr h₀ L h' m → News h₀ L h' (tl ++ news) → Q v { s with heap := h', toks := tk' }) →
    wpAny (model PR w) (ktrTop dp un gd cn cs L a ccd cl outer) (call (.ref f) vs) Q E s
theorem useMB {f : Addr} {k : Nat} {vs : List Value} {D : Addr} {o : Obj} {x : Bool} {dp un : Nat} {gd : Option (List Code)} {cn : Str} {cs : Scope} {a : Addr} {ccd : Value} {cl : List (Str × Addr)} {outer : List Env} {A₀ : Around} {base h₀ : Heap} {L : Addr} {m : Str → Option Value} {news : List (Addr × Obj)} {s : Shared} {Q E : Value → Shared → Prop}
    (C : ConM w mean mg mb f k vs D o (OutB x)) (hm : (D, o) ∈ news)
    (B : Below A₀ base outer h₀) (F : Fr h₀ L s.heap m) (X : (hd.heap_39 w.params).In h₀) (N : News h₀ L s.heap news) (T : Top hd.view_39 LO mean mg mb h₀) (hk : cs.kind = .function) (hd : dp + k < recursionLimit) (hu : un + 8 * k < cLine)
    (ret : ∀ (h' : Heap) (tk' : Nat), Fr h₀ L h' m → News h₀ L h' news → Q (.bool x) { s with heap := h', toks := tk' }) :
    wpAny (model PR w) (ktrTop dp un gd cn cs L a ccd cl outer) (call (.ref f) vs) Q E s :=
  C dp un gd cn cs a ccd cl outer A₀ base h₀ L m news s Q E hm B F X N T hk hd hu fun v tl h' tk' hP F' N' => by
    obtain ⟨rfl, rfl⟩ := hP
    exact ret h' tk' F' N'
theorem max_ite (p : Int) : (if p > 0 then p else 0) = max 0 p := by split <;> omega
theorem c_near {b n p : Int} {fg : PySem.Str} {D : Addr} {t t1 t2 t3 : Tok} {c : Nat} (hb : InB b) (hn : Sm 300 n) (p0 : -100 ≤ p) (p1 : p ≤ 100) (hN : Near (topOf b) (botOf b) n p) :
    ConM w mean mg mb 182 3 [.ref D, .int b t] D (tupO [.str fg t1, .int n t2, .int p t3] c) (OutB true) := by
  have h3 : Sm 300 (topOf b) := ⟨Sm.topOf' hb⟩
  have h4 : Sm 300 (botOf b) := ⟨Sm.botOf' hb⟩
  unfold ConM PR; k_fill; intro dp un gd cn cs a ccd cl outer A₀ base h₀ L m news s Q E hm B F X N T hk hd hu hret; refine wpAny_call ?_; (k_dflt cell_enter)
  k_steps
  all_goals tb_rel
  · rw [max_ite, max_ite]
    exact decide_eq_true hN.2
  · rw [max_ite, max_ite]
    exact decide_eq_true hN.1
section
open PySem.NumText
theorem sgE_tx {e : Int} : sgE e = tx (101 :: (if e < 0 then 45 else 43) :: dig (if e < 0 then -e else e)) := by
  by_cases h : e < 0
  · rw [sgE_n h, if_pos h, if_pos h, lit_e, lit_minus, num_tx (by omega), tx_app, tx_app]
    rfl
  · rw [sgE_p h, if_neg h, if_neg h, lit_e, lit_plus, num_tx (by omega), tx_app, tx_app]
    rfl
theorem dig_len_le {n : Int} {k : Nat} (h0 : 0 ≤ n) (h1 : n < 10 ^ k) (hk : 0 < k) : (dig n).length ≤ k := by
  have := toString_length_le h0 hk h1
  rw [num_tx h0, tx_len] at this
  exact this
theorem drop_head {c : Nat} {r : List Nat} (h : c ≠ 48) : (c :: r).dropWhile (· == 48) = c :: r := by
  rw [List.dropWhile_cons, if_neg (by simpa using h)]
theorem rep_drop {c : Nat} {r : List Nat} (h : c ≠ 48) : ∀ k : Nat, (List.replicate k 48 ++ (c :: r)).dropWhile (· == 48) = c :: r
  | 0 => drop_head h
  | k + 1 => by
    rw [List.replicate_succ, List.cons_append, List.dropWhile_cons, if_pos (by rfl)]
    exact rep_drop h k
theorem tells_wexp {F : List Nat} {n e : Int} {c : Nat} {r : List Nat} (hF : F = c :: r) (hc : c ≠ 48) (hd : AllDigits F) (hl : F.length ≤ 60) (hn : ((digitsVal F : Nat) : Int) = n) (h0 : -100 ≤ e) (h1 : e ≤ 100) :
    Tells (PySem.Str.ofString "" ++ wexp (tx F) e) (tx F) n (e - ((F.length : Int) - 1)) := by
  have hW : AllDigits [c] := fun d hd' => hd d (by rw [hF]; rcases List.mem_cons.mp hd' with rfl | q; exact .head _; exact nomatch q)
  have hP : AllDigits r := fun d hd' => hd d (by rw [hF]; exact .tail _ hd')
  have hlr : F.length = r.length + 1 := by rw [hF]; rfl
  have lD : (dig (if e < 0 then -e else e)).length ≤ 60 := by
    split <;> exact dig_len_le (by omega) (by omega) (by decide)
  have eF : ([c] ++ r).dropWhile (· == 48) = F := by rw [hF]; exact drop_head hc
  have s1 : Txt.slice (tx F) none (some 1) = tx [c] := by
    rw [slice_to (by decide) (by omega), hF]; rfl
  have b1 : Txt.slice (tx ((if e < 0 then 45 else 43) :: dig (if e < 0 then -e else e))) (some 1) none = tx (dig (if e < 0 then -e else e)) := by
    rw [slice_from (by decide) (by simp only [List.length_cons]; omega)]; rfl
  have b2 : Txt.slice (tx ((if e < 0 then 45 else 43) :: dig (if e < 0 then -e else e))) none (some 1) = tx [if e < 0 then 45 else 43] := by
    rw [slice_to (by decide) (by simp only [List.length_cons]; omega)]; rfl
  have he : PySem.intText? (PySem.Str.ofString "0" ++ Txt.slice (tx ((if e < 0 then 45 else 43) :: dig (if e < 0 then -e else e))) (some 1) none) = some (if e < 0 then -e else e) := by
    rw [b1, reads (dig_all _) (by omega), dig_val (by split <;> omega)]
  have hp : e - ((F.length : Int) - 1) = (if e < 0 then -e else e) * (if Txt.slice (tx ((if e < 0 then 45 else 43) :: dig (if e < 0 then -e else e))) none (some 1) == PySem.Str.ofString "-" then -1 else 1) - (r.length : Int) := by
    rw [b2, lit_minus]
    by_cases h : e < 0
    · rw [if_pos h, if_pos h, if_pos (beq_self_eq_true _)]
      omega
    · have : (tx [43] == tx [45]) = false := by rw [tx_def, tx_def]; decide
      rw [if_neg h, if_neg h, this, if_neg Bool.false_ne_true]
      omega
  have hx : ∃ ah, PySem.Str.ofString "" ++ wexp (tx F) e = tx (ah ++ 101 :: ((if e < 0 then 45 else 43) :: dig (if e < 0 then -e else e))) ∧ (ah = [c] ++ 46 :: r ∨ (ah = [c] ∧ r = [])) := by
    by_cases h : 1 < ((tx F).length : Int)
    · have s2 : Txt.slice (tx F) (some 1) none = tx r := by
        rw [slice_from (by decide) (by omega), hF]; rfl
      refine ⟨[c] ++ 46 :: r, ?_, .inl rfl⟩
      rw [wexp_p h, s1, s2, lit_none, lit_dot, sgE_tx, tx_app, tx_app, tx_app, tx_app]
      simp
    · refine ⟨[c], ?_, .inr ⟨rfl, ?_⟩⟩
      · rw [wexp_n h, s1, lit_none, sgE_tx, tx_app, tx_app, tx_app]
        simp
      · rw [tx_len] at h
        exact List.length_eq_zero_iff.mp (by omega)
  obtain ⟨ah, hx, ha⟩ := hx
  have := tells_lists (n := n) (.inr ⟨hx, rfl⟩) ha hW hP (by simp) (by omega) (by simp only [List.length_cons]; omega) (by rw [← hn, hF]; rfl) he hp
  rw [eF] at this
  exact this
theorem tells_prec {F : List Nat} {n e k : Int} {c : Nat} {r : List Nat} (hF : F = c :: r) (hc : c ≠ 48) (hd : AllDigits F) (hl : F.length ≤ 60) (hn : ((digitsVal F : Nat) : Int) = n) (h0 : -100 ≤ e) (h1 : e ≤ 100) (hk : (F.length : Int) = k) :
    Tells (prec (tx F) e k) (tx F) n (e - (k - 1)) := by
  have hlr : F.length = r.length + 1 := by rw [hF]; rfl
  have e0 : F.dropWhile (· == 48) = F := by rw [hF]; exact drop_head hc
  by_cases c1 : e < -6 ∨ k ≤ e
  · rw [prec_1 c1, ← hk]
    exact tells_wexp hF hc hd hl hn h0 h1
  by_cases c2 : e = k - 1
  · have := tells_plain (n := n) (x := prec (tx F) e k) (W := F) (P := []) (.inr ⟨by rw [prec_2 c1 c2, lit_none, tx_app, List.nil_append], rfl⟩) hd (fun c hc => nomatch hc) (by omega) (by decide) (by rw [List.append_nil]; exact hn)
    rw [List.append_nil, e0] at this
    have ep : e - (k - 1) = -((([] : List Nat).length : Nat) : Int) := by simp only [List.length_nil]; omega
    rw [ep]
    exact this
  by_cases c3 : 0 ≤ e
  · have := tells_plain (n := n) (x := prec (tx F) e k) (W := F.take (e + 1).toNat) (P := F.drop (e + 1).toNat) (.inl (by
      rw [prec_3 c1 c2 c3, lit_none, lit_dot, slice_to (by omega) (by omega), slice_from (by omega) (by omega), tx_app, tx_app, tx_app]
      simp)) (all_take hd _) (all_dropN hd _) (by rw [List.length_take]; omega) (by rw [List.length_drop]; omega) (by rw [List.take_append_drop]; exact hn)
    rw [List.take_append_drop, e0] at this
    have ep : e - (k - 1) = -(((F.drop (e + 1).toNat).length : Nat) : Int) := by rw [List.length_drop]; omega
    rw [ep]
    exact this
  · have := tells_plain (n := n) (x := prec (tx F) e k) (W := [48]) (P := List.replicate (0 - e - 1).toNat 48 ++ F) (.inl (by
      rw [prec_4 c1 c2 c3, lit_none, lit_zdot, lit_zero, mul_zero_tx, tx_app, tx_app, tx_app]
      simp)) (all_rep 1) (all_app (all_rep _) hd) (by decide) (by rw [List.length_append, List.length_replicate]; omega) (by
        rw [← hn]
        have q := val_rep ((0 - e - 1).toNat + 1) F
        rw [List.replicate_succ] at q
        exact congrArg (fun z : Nat => (z : Int)) q)
    have q : ([48] ++ (List.replicate (0 - e - 1).toNat 48 ++ F)).dropWhile (· == 48) = F := by
      have z := rep_drop (r := r) hc ((0 - e - 1).toNat + 1)
      rw [← hF, List.replicate_succ] at z
      exact z
    rw [q] at this
    have ep : e - (k - 1) = -((List.replicate (0 - e - 1).toNat 48 ++ F).length : Int) := by rw [List.length_append, List.length_replicate]; omega
    rw [ep]
    exact this
theorem tells_fix {F : List Nat} {q many : Int} (hd : AllDigits F) (hne : 1 ≤ F.length) (hl : F.length ≤ 60) (hq : ((digitsVal F : Nat) : Int) = q) (m0 : 0 ≤ many) (m1 : many ≤ 20) :
    ∃ fg, Tells (fixS (tx F) many) fg q (-many) := by
  by_cases c1 : many = 0
  · have := tells_plain (n := q) (x := fixS (tx F) many) (W := F) (P := []) (.inr ⟨by rw [fixS_0 c1, lit_none, tx_app, List.nil_append], rfl⟩) hd (fun c hc => nomatch hc) (by omega) (by decide) (by rw [List.append_nil]; exact hq)
    have ep : -many = -((([] : List Nat).length : Nat) : Int) := by simp only [List.length_nil]; omega
    rw [← ep] at this
    exact ⟨_, this⟩
  · generalize hz : List.replicate (many + 1 - (F.length : Int)).toNat 48 ++ F = Z
    have hp : padd (tx F) many = tx Z := by rw [padd_eq, lit_zero, tx_len, mul_zero_tx, tx_app, hz]
    have hZ : AllDigits Z := by rw [← hz]; exact all_app (all_rep _) hd
    have lZ : Z.length = (many + 1 - (F.length : Int)).toNat + F.length := by rw [← hz, List.length_append, List.length_replicate]
    have vZ : ((digitsVal Z : Nat) : Int) = q := by rw [← hz, val_rep]; exact hq
    have := tells_plain (n := q) (x := fixS (tx F) many) (W := Z.take ((Z.length : Int) - many).toNat) (P := Z.drop ((Z.length : Int) - many).toNat) (.inl (by
      rw [fixS_1 c1, hp, tx_len, lit_none, lit_dot, slice_to (by omega) (by omega), slice_from (by omega) (by omega), tx_app, tx_app, tx_app]
      simp)) (all_take hZ _) (all_dropN hZ _) (by rw [List.length_take]; omega) (by rw [List.length_drop]; omega) (by rw [List.take_append_drop]; exact vZ)
    have ep : -many = -(((Z.drop ((Z.length : Int) - many).toNat).length : Nat) : Int) := by rw [List.length_drop]; omega
    rw [← ep] at this
    exact ⟨_, this⟩
/-- the three texts of the law -/
theorem told_one {b many : Int} (hb : InB b) (m0 : 0 ≤ many) (m1 : many ≤ 20) :
    Tells (PySem.Str.ofString "" ++ wexp (PySem.Str.ofString (toString (fig b (many + 1)))) (ex b (many + 1))) (PySem.Str.ofString (toString (fig b (many + 1)))) (fig b (many + 1)) (ex b (many + 1) - many) := by
  have h0 := fig_pos (b := b) (n := many + 1) (by omega)
  obtain ⟨lo, hi, _⟩ := fig_spec (b := b) (n := many + 1) (by omega)
  have h2 := ex_bounds (n := many + 1) hb
  obtain ⟨c, r, hF, hc⟩ := dig_head h0
  have e1 : (many + 1 - 1).toNat = (many + 1).toNat - 1 := by omega
  rw [e1] at lo
  have hlen : ((dig (fig b (many + 1))).length : Int) = many + 1 := by
    rw [dig_len (by omega), nd_of (by omega) lo hi]
    omega
  rw [num_tx (by omega)]
  have := tells_wexp hF hc (dig_all _) (by omega) (dig_val (by omega)) h2.1 h2.2
  rw [hlen] at this
  have e2 : ex b (many + 1) - (many + 1 - 1) = ex b (many + 1) - many := by omega
  rw [e2] at this
  exact this
theorem told_two {b many : Int} (hb : InB b) (m0 : 0 ≤ many) (m1 : many ≤ 20) :
    Tells (prec (PySem.Str.ofString (toString (fig b (many + 1)))) (ex b (many + 1)) (many + 1)) (PySem.Str.ofString (toString (fig b (many + 1)))) (fig b (many + 1)) (ex b (many + 1) - many) := by
  have h0 := fig_pos (b := b) (n := many + 1) (by omega)
  obtain ⟨lo, hi, _⟩ := fig_spec (b := b) (n := many + 1) (by omega)
  have h2 := ex_bounds (n := many + 1) hb
  obtain ⟨c, r, hF, hc⟩ := dig_head h0
  have e1 : (many + 1 - 1).toNat = (many + 1).toNat - 1 := by omega
  rw [e1] at lo
  have hlen : ((dig (fig b (many + 1))).length : Int) = many + 1 := by
    rw [dig_len (by omega), nd_of (by omega) lo hi]
    omega
  rw [num_tx (by omega)]
  have := tells_prec hF hc (dig_all _) (by omega) (dig_val (by omega)) h2.1 h2.2 hlen
  have e2 : ex b (many + 1) - (many + 1 - 1) = ex b (many + 1) - many := by omega
  rw [e2] at this
  exact this
theorem told_fix {b many : Int} (m0 : 0 ≤ many) (m1 : many ≤ 20) (hf : ¬ botOf b * 10 ^ Int.toNat 21 ≤ topOf b) :
    ∃ fg, Tells (fixS (PySem.Str.ofString (toString (fixN b many))) many) fg (fixN b many) (-many) := by
  have h0 : 0 ≤ fixN b many := fixN_lo
  have h1 := fixN_hi (fix_in hf) m0 m1
  rw [num_tx h0]
  refine tells_fix (dig_all _) ?_ (dig_len_le h0 h1 (by decide)) (dig_val h0) m0 m1
  have := dig_ne (fixN b many)
  cases h : dig (fixN b many) with
  | nil => exact absurd h this
  | cons c r => simp
theorem one_len {b many : Int} (m0 : 0 ≤ many) : ((PySem.Str.ofString (toString (fig b (many + 1)))).length : Int) = many + 1 := by
  have h0 := fig_pos (b := b) (n := many + 1) (by omega)
  obtain ⟨lo, hi, _⟩ := fig_spec (b := b) (n := many + 1) (by omega)
  have e1 : (many + 1 - 1).toNat = (many + 1).toNat - 1 := by omega
  rw [e1] at lo
  have := nd_of (by omega) lo hi
  unfold nd at this
  rw [this]
  omega
end
theorem c_tells {x fg : PySem.Str} {n p : Int} {t : Tok} (h : Tells x fg n p) : Con w mean mg mb 175 1 [.str x t] (OutSII fg n p) := by
  obtain ⟨ah, s1, bh, wh, pt, pr, e, hx, ha, hb, hw, hp, hf, e1, e2, e3, e4, e5, e6, e7, e8, e9, rfl⟩ := h.out
  exact c_told hx ha hb hw hp hf e1 e2 e3 e4 e5 e6 e7 e8 e9
theorem two52 : (2 : Int) ^ Int.toNat 52 = 4503599627370496 := by decide
theorem two40 : (2 : Int) ^ Int.toNat 40 = 1099511627776 := by decide
theorem inb_1 (x y : Int) : InB ((973 + x.fmod 120) * 2 ^ Int.toNat 52 + y.fmod (2 ^ Int.toNat 52)) := by
  rw [two52, Int.fmod_eq_emod_of_nonneg _ (by decide), Int.fmod_eq_emod_of_nonneg _ (by decide)]
  exact ⟨by omega, by omega⟩
theorem inb_2 (x y : Int) : InB ((973 + x.fmod 120) * 2 ^ Int.toNat 52 + (y.fmod (2 ^ Int.toNat 52)).fdiv (2 ^ Int.toNat 40) * 2 ^ Int.toNat 40) := by
  rw [two52, two40, Int.fmod_eq_emod_of_nonneg _ (by decide), Int.fmod_eq_emod_of_nonneg _ (by decide), Int.fdiv_eq_ediv_of_nonneg _ (by decide)]
  exact ⟨by omega, by omega⟩
theorem rest21 (x : Int) : 0 ≤ x.fmod 21 ∧ x.fmod 21 ≤ 20 := by
  rw [Int.fmod_eq_emod_of_nonneg _ (by decide)]
  omega
theorem cut_bits {M : Model} {A : Around} {Q : Unit → Shared → Prop} {E : Value → Shared → Prop} {s : Shared} {env : Env} {x y : Int} {t : Tok} (h : InB (x + y))
    (k : ∀ b : Int, InB b → wpAny M A (storeName env (PySem.Str.ofString "bits") (.int b t)) Q E s) : wpAny M A (storeName env (PySem.Str.ofString "bits") (.int (x + y) t)) Q E s := k _ h
theorem cut_many {M : Model} {A : Around} {Q : Unit → Shared → Prop} {E : Value → Shared → Prop} {s : Shared} {env : Env} {x : Int} {t : Tok}
    (k : ∀ n : Int, 0 ≤ n → n ≤ 20 → wpAny M A (storeName env (PySem.Str.ofString "many") (.int n t)) Q E s) : wpAny M A (storeName env (PySem.Str.ofString "many") (.int (x.fmod 21) t)) Q E s := k _ (rest21 x).1 (rest21 x).2
theorem ne_sameS {prog : Program} {A : Around} {E : Value → Shared → Prop} {s : Shared} {x : PySem.Str} {t u : Tok} {Q : Value → Shared → Prop} (h : Q (.bool false) s) : wpAny (model prog w) A (compareOp .NotEq (.str x t) (.str x u)) Q E s :=
  ne_str (by have e : (x != x) = false := by simp
             rw [e]; exact h)
theorem ne_sameI {prog : Program} {A : Around} {E : Value → Shared → Prop} {s : Shared} {x y : Int} {t u : Tok} {Q : Value → Shared → Prop} (e : x = y) (h : Q (.bool false) s) : wpAny (model prog w) A (compareOp .NotEq (.int x t) (.int y u)) Q E s :=
  ne_int (by have e : (x != y) = false := by rw [e]; simp
             rw [e]; exact h)
theorem sm_fig {b n : Int} (h0 : 0 ≤ n) (h1 : n ≤ 20) (_hb : InB b) : Sm 300 (fig b (n + 1)) := Sm.of (Int.le_of_lt (fig_pos (by omega))) (by
  have := fig_hi (b := b) (n := n + 1) (by omega) (by omega)
  have h : (10 : Int) ^ 60 < 2 ^ 300 := by decide +kernel
  omega)
theorem sm_fix {b n : Int} (hf : ¬ botOf b * 10 ^ Int.toNat 21 ≤ topOf b) (h0 : 0 ≤ n) (h1 : n ≤ 20) : Sm 300 (fixN b n) := Sm.of fixN_lo (by
  have := fixN_hi (fix_in hf) h0 h1
  have h : (10 : Int) ^ 60 < 2 ^ 300 := by decide +kernel
  omega)
theorem near_one {b n : Int} (h0 : 0 ≤ n) (_hb : InB b) : Near (topOf b) (botOf b) (fig b (n + 1)) (ex b (n + 1) - n) := by
  have := (fig_spec (b := b) (n := n + 1) (by omega)).2.2
  have e : ex b (n + 1) - (n + 1 - 1) = ex b (n + 1) - n := by omega
  rw [e] at this
  exact this
theorem len_one {b n : Int} (h0 : 0 ≤ n) (_hb : InB b) : ((PySem.Str.ofString (toString (fig b (n + 1)))).length : Int) = n + 1 := one_len h0
theorem sm_top {b : Int} (h : InB b) : Sm 300 (topOf b) := ⟨Sm.topOf' h⟩
theorem sm_bot {b : Int} (h : InB b) : Sm 300 (botOf b) := ⟨Sm.botOf' h⟩
theorem use_fixed {b many : Int} {t1 t2 : Tok} {dp un : Nat} {gd : Option (List Code)} {cn : Str} {cs : Scope} {a : Addr} {ccd : Value} {cl : List (Str × Addr)} {outer : List Env} {A₀ : Around} {base h₀ : Heap} {L : Addr} {m : Str → Option Value} {news : List (Addr × Obj)} {s : Shared} {Q E : Value → Shared → Prop}
    (hb : InB b) (m0 : 0 ≤ many) (m1 : many ≤ 20) (hf : ¬ botOf b * 10 ^ Int.toNat 21 ≤ topOf b)
    (B : Below A₀ base outer h₀) (F : Fr h₀ L s.heap m) (X : (hd.heap_39 w.params).In h₀) (N : News h₀ L s.heap news) (T : Top hd.view_39 LO mean mg mb h₀) (hk : cs.kind = .function) (hd : dp + 5 < recursionLimit) (hu : un + 8 * 5 < cLine)
    (ret : ∀ (fg : PySem.Str) (t : Tok) (h' : Heap) (tk' : Nat), Tells (fixS (PySem.Str.ofString (toString (fixN b many))) many) fg (fixN b many) (-many) → Fr h₀ L h' m → News h₀ L h' news → Q (.str (fixS (PySem.Str.ofString (toString (fixN b many))) many) t) { s with heap := h', toks := tk' }) :
    wpAny (model PR w) (ktrTop dp un gd cn cs L a ccd cl outer) (call (.ref 147) [.int b t1, .int many t2]) Q E s := by
  obtain ⟨fg, hT⟩ := told_fix m0 m1 hf
  exact useS (c_to_fixed hb m0 m1 hf) B F X N T hk hd hu fun t h' tk' F' N' => ret fg t h' tk' hT F' N'
theorem ex_lo {b n : Int} (h : InB b) (h0 : 0 ≤ n) (h1 : n ≤ 20) : -100 ≤ ex b (n + 1) - n := by have := ex_near (n := n + 1) h; omega
theorem ex_hi {b n : Int} (h : InB b) (h0 : 0 ≤ n) (h1 : n ≤ 20) : ex b (n + 1) - n ≤ 100 := by have := ex_near (n := n + 1) h; omega
local macro_rules | `(tactic| walk_at "call ref") => `(tactic| (k_here; (with_reducible show wpAny _ _ (call (Value.ref 175) _) _ _ _); k_dflt (refine' useSII (c_tells ?p1) ?k1 ?k2 ?k3 ?k4 ?k5 ?k6 ?k7 ?k8 ?_; (case p1 => ktr_rel); (case k1 => k_asm); (case k2 => k_asm); (case k3 => k_asm); (case k4 => k_asm); (case k5 => k_asm); (case k6 => first | exact rfl | with_reducible assumption); (case k7 => ktr_room); (case k8 => ktr_units)); intro D9 t9 u9 r9 c9 h9 tk9 F9 N9; (try k_sweep); (try dsimp only); (try k_fold)))
local macro_rules | `(tactic| walk_at "call ref") => `(tactic| (k_here; (with_reducible show wpAny _ _ (call (Value.ref 168) _) _ _ _); k_dflt (refine' useS (c_to_precision ?p1 ?p2 ?p3) ?k1 ?k2 ?k3 ?k4 ?k5 ?k6 ?k7 ?k8 ?_; (case p1 => ktr_rel); (case p2 => ktr_rel); (case p3 => ktr_rel); (case k1 => k_asm); (case k2 => k_asm); (case k3 => k_asm); (case k4 => k_asm); (case k5 => k_asm); (case k6 => first | exact rfl | with_reducible assumption); (case k7 => ktr_room); (case k8 => ktr_units)); intro t9 h9 tk9 F9 N9; (try k_sweep); (try dsimp only); (try k_fold)))
local macro_rules | `(tactic| walk_at "storeName") => `(tactic| (k_here; (with_reducible show wpAny _ _ (storeName _ (PySem.Str.ofString "bits") (Value.int (_ + _) _)) _ _ _); (with_reducible refine' cut_bits ?q1 ?_); (case q1 => first | with_reducible exact inb_1 _ _ | with_reducible exact inb_2 _ _); intro b9 hb9))
local macro_rules | `(tactic| walk_at "storeName") => `(tactic| (k_here; (with_reducible show wpAny _ _ (storeName _ (PySem.Str.ofString "many") (Value.int (Int.fmod _ _) _)) _ _ _); (with_reducible refine' cut_many ?_); (with_reducible rename InB _ => hb9); (intro n9 m09 m19); (have hT1 := told_one hb9 m09 m19); (have hT2 := told_two hb9 m09 m19); (have hL9 := len_one m09 hb9); (have hS9 := sm_fig m09 m19 hb9); (have hN9 := near_one m09 hb9); (have hX9 := ex_lo hb9 m09 m19); (have hY9 := ex_hi hb9 m09 m19); (have hA9 := sm_top hb9); (have hB9 := sm_bot hb9)))
local macro_rules | `(tactic| walk_at "call ref") => `(tactic| (k_here; (with_reducible show wpAny _ _ (call (Value.ref 161) _) _ _ _); k_dflt (refine' useS (c_to_exponential ?p1 ?p2 ?p3) ?k1 ?k2 ?k3 ?k4 ?k5 ?k6 ?k7 ?k8 ?_; (case p1 => ktr_rel); (case p2 => ktr_rel); (case p3 => ktr_rel); (case k1 => k_asm); (case k2 => k_asm); (case k3 => k_asm); (case k4 => k_asm); (case k5 => k_asm); (case k6 => first | exact rfl | with_reducible assumption); (case k7 => ktr_room); (case k8 => ktr_units)); intro t9 h9 tk9 F9 N9; (try k_sweep); (try dsimp only); (try k_fold)))
local macro_rules | `(tactic| walk_at "call ref") => `(tactic| (k_here; (with_reducible show wpAny _ _ (call (Value.ref 147) _) _ _ _); k_dflt (refine' use_fixed ?p1 ?p2 ?p3 ?p4 ?k1 ?k2 ?k3 ?k4 ?k5 ?k6 ?k7 ?k8 ?_; (case p1 => with_reducible assumption); (case p2 => with_reducible assumption); (case p3 => with_reducible assumption); (case p4 => with_reducible assumption); (case k1 => k_asm); (case k2 => k_asm); (case k3 => k_asm); (case k4 => k_asm); (case k5 => k_asm); (case k6 => first | exact rfl | with_reducible assumption); (case k7 => ktr_room); (case k8 => ktr_units)); intro fg9 t9 h9 tk9 hT9 F9 N9; (try k_sweep); (try dsimp only); (try k_fold)))
local macro_rules | `(tactic| walk_at "call ref") => `(tactic| (k_here; (with_reducible show wpAny _ _ (call (Value.ref 182) _) _ _ _); k_dflt (refine' useMB (c_near ?p1 ?p2 ?p3 ?p4 ?p5) ?p6 ?k1 ?k2 ?k3 ?k4 ?k5 ?k6 ?k7 ?k8 ?_; (case k2 => k_asm); (case k4 => k_asm); (case p6 => k_mem); (case p1 => with_reducible assumption); (case p2 => first | with_reducible assumption | exact sm_fix (by with_reducible assumption) (by with_reducible assumption) (by with_reducible assumption)); (case p3 => first | with_reducible assumption | omega); (case p4 => first | with_reducible assumption | omega); (case p5 => first | with_reducible assumption | with_reducible exact fixN_near (by with_reducible assumption)); (case k1 => k_asm); (case k3 => k_asm); (case k5 => k_asm); (case k6 => first | exact rfl | with_reducible assumption); (case k7 => ktr_room); (case k8 => ktr_units)); intro h9 tk9 F9 N9; (try k_sweep); (try dsimp only); (try k_fold); (try wrow_close)))
local macro_rules | `(tactic| walk_at "compareOp NotEq str str") => `(tactic| (with_reducible refine ne_sameS ?_))
local macro_rules | `(tactic| walk_at "compareOp NotEq int int") => `(tactic| ((with_reducible refine' ne_sameI ?sa ?_); (case sa => first | rfl | with_reducible assumption)))
local macro_rules | `(tactic| walk_at "subscriptTail") => `(tactic| (k_here; (with_reducible show wpAny _ _ (subscriptTail (PySem.Expr.List _ _) _ _ _) _ _ _); k_dflt (refine kba_turn (value' := PySem.Expr.Name (PySem.Str.ofString "_") ⟨0, 0, 0, 0⟩) (fun _ => rfl) ?_)))
local macro_rules | `(tactic| walk_at "subscriptTail Name Slice ref ref") => `(tactic| (k_here; (with_reducible show wpAny _ _ (subscriptTail (PySem.Expr.Name (PySem.Str.ofString "_") _) (PySem.Expr.Slice _ _ none _) (Value.ref _) (Value.ref _)) _ _ _); k_dflt (refine' kmk_slice_ints ?F ?N ?l ?p ?q ?i ?m ?c ?_ ?s ?t ?z; (case F => k_asm); (case N => k_asm); (case l => kmk_list); (case p => kmk_part); (case q => kmk_part); (case i => l_ints); (case m => exact kmk_from (by l_ints) (by omega)); (case c => exact List.length_drop ..); (case s => with_unfolding_all rfl); (case t => kmk_pure); (case z => kmk_size)); intro D' ws' h' F' N' l1 hI' hC' hL'; (try simp only [Int.reduceNeg, Int.neg_neg, Int.reduceToNat] at hI' hC' hL'); (try k_lt l1); (try k_sweep)))
theorem law_end {cl : PySem.Str → Option Addr} {mean : ExcName → Option Value} {args : List WData} {s₁ s' : Shared} {L : Addr} {m : PySem.Str → Option Value} {b : Bool}
    (F : Fr s₁.heap L s'.heap m) (hg : s'.gens = #[]) (hb : b = true) (hos : s'.os = s₁.os) : GoodW PySem.Challenge.rw_sa0366_01.row.claim cl mean args s₁ (.ok (.ret (.bool b))) s' := by
  subst hb
  refine goodW_bool F hg (raisesW_false ?_) ?_ hos
  · wrow_none_raised
  · refine postW_of (by wrow_shape) (w_eq_bool (w_res rfl) w_lit) ?_
    rfl
local macro_rules | `(tactic| wrow_close) => `(tactic| ((refine' law_end ?kF ?kG ?kB ?kO); (case kF => k_asm); (case kG => with_reducible assumption); (case kB => first | rfl | exact decide_eq_true (by assumption)); (case kO => rfl)))
theorem body : PySem.Challenge.rw_sa0366_01.Holds := Mine.hd (by
  w_top off
  k_go0
  (all_goals try k_fold)
  k_steps)
end Mine
theorem PySem.Challenge.cw_sa0366_01_holds : PySem.Challenge.rw_sa0366_01.Holds :=
  Mine.body
