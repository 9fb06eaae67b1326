import PyProof.Rows.All
import Wide.All
import OpenK.AllK
import Wide.FinOn
import PySem.Challenge.RW_pb0330_01
set_option Elab.async false
set_option maxRecDepth 100000
set_option linter.unusedVariables false
open PySem PySem.W PyProof.Rows
set_option maxHeartbeats 8000000 in
set_option synthInstance.maxSize 1 in
open_top Mine.hd for PySem.Challenge.rw_pb0330_01
namespace Mine
open PySem.Calls
open PySem.Builtin.Int (intBits)

noncomputable abbrev VW : Program := Mine.hd.view_39
noncomputable abbrev LO : List Str := looseW Mine.hd.view_39 [Str.ofString "pack", Str.ofString "from_ratio"]

/-- a form's numbers -/
structure Fm where
  eb : Int
  fb : Int
  bias : Int
  top : Int
  hid : Int
  least : Int

/-- the bounds that the walk asks of them -/
structure FmB (f : Fm) : Prop where
  e0 : 2 ≤ f.eb
  e1 : f.eb ≤ 8
  f0 : 1 ≤ f.fb
  f1 : f.fb ≤ 23
  b0 : 1 ≤ f.bias
  b1 : f.bias ≤ 127
  t0 : 3 ≤ f.top
  t1 : f.top ≤ 255
  h0 : 2 ≤ f.hid
  h1 : f.hid ≤ 8388608
  l0 : -149 ≤ f.least
  l1 : f.least ≤ -1

/-- the ledger bears a form at x -/
inductive FmIn (w : World) (news : List (Addr × Obj)) (x : Addr) (f : Fm) : Prop where
  | mk (dx : Addr) (k1 k2 k3 k4 k5 k6 t1 t2 t3 t4 t5 t6 : Tok) (hx : (x, instObj 31 dx) ∈ news)
    (hd : (dx, dictOf [⟨PyData.keyHash w.params (Str.ofString "exponent_bits"), .str (Str.ofString "exponent_bits") k1, .int f.eb t1⟩,
   ⟨PyData.keyHash w.params (Str.ofString "fraction_bits"), .str (Str.ofString "fraction_bits") k2, .int f.fb t2⟩,
   ⟨PyData.keyHash w.params (Str.ofString "bias"), .str (Str.ofString "bias") k3, .int f.bias t3⟩,
   ⟨PyData.keyHash w.params (Str.ofString "top"), .str (Str.ofString "top") k4, .int f.top t4⟩,
   ⟨PyData.keyHash w.params (Str.ofString "hidden"), .str (Str.ofString "hidden") k5, .int f.hid t5⟩,
   ⟨PyData.keyHash w.params (Str.ofString "least"), .str (Str.ofString "least") k6, .int f.least t6⟩] 6) ∈ news) : FmIn w news x f

theorem FmIn.more {w : World} {news news' : List (Addr × Obj)} {x : Addr} {f : Fm} (h : FmIn w news x f) (hs : ∀ p ∈ news, p ∈ news') : FmIn w news' x f := by
  obtain ⟨dx, k1, k2, k3, k4, k5, k6, t1, t2, t3, t4, t5, t6, hx, hd⟩ := h
  exact ⟨dx, k1, k2, k3, k4, k5, k6, t1, t2, t3, t4, t5, t6, hs _ hx, hs _ hd⟩

/-- a call's contract: the frame and the ledger as they were, the answer one that R admits -/
def Ct (w : World) (mean : ExcName → Option Value) (mg mb : Str → Option Value) (f : Addr) (d : Nat) (news : List (Addr × Obj)) (vs : List Value) (R : Value → Prop) : Prop :=
  ∀ (dp un : Nat) (gd : Option (List Code)) (cn : Str) (cs : Scope) (a : Addr) (ccd : Value) (cl : List (Str × Addr)) (outer : List Env) (A₀ : Around) (base h₀ : Heap) (L : Addr) (m : Str → Option Value) (s : Shared) (Q E : Value → Shared → Prop),
    Below A₀ base outer h₀ → Fr h₀ L s.heap m → (Mine.hd.heap_39 w.params).In h₀ → News h₀ L s.heap news → Top VW LO mean mg mb h₀ → cs.kind = .function → dp + d < recursionLimit → un + 8 * d < cLine →
    (∀ (v : Value) (h' : Heap) (tk' : Nat), R v → Fr h₀ L h' m → News h₀ L h' news → Q v { s with heap := h', toks := tk' }) →
    wpAny (model PySem.Challenge.rw_pb0330_01.row.prog w) (ktrTop dp un gd cn cs L a ccd cl outer) (call (.ref f) vs) Q E s

def IsI (x : Int) (v : Value) : Prop := ∃ t, v = .int x t
def IsB (x : Bool) (v : Value) : Prop := v = .bool x
def IsS (x : Str) (v : Value) : Prop := ∃ t, v = .str x t

section
variable {h₀ h' : Heap} {L : Addr} {m : Str → Option Value} {news : List (Addr × Obj)} {s : Shared} {Q : Value → Shared → Prop} {t : Tok} {tk' : Nat}
theorem endI {x y : Int} (hret : ∀ (v : Value) (h' : Heap) (tk' : Nat), IsI x v → Fr h₀ L h' m → News h₀ L h' news → Q v { s with heap := h', toks := tk' }) (F : Fr h₀ L h' m) (N : News h₀ L h' news) (e : y = x) : Q (.int y t) { s with heap := h', toks := tk' } :=
  hret _ _ _ ⟨t, by rw [e]⟩ F N
theorem endB {x y : Bool} (hret : ∀ (v : Value) (h' : Heap) (tk' : Nat), IsB x v → Fr h₀ L h' m → News h₀ L h' news → Q v { s with heap := h', toks := tk' }) (F : Fr h₀ L h' m) (N : News h₀ L h' news) (e : y = x) : Q (.bool y) { s with heap := h', toks := tk' } :=
  hret _ _ _ (by rw [e]; rfl) F N
theorem endS {x y : Str} (hret : ∀ (v : Value) (h' : Heap) (tk' : Nat), IsS x v → Fr h₀ L h' m → News h₀ L h' news → Q v { s with heap := h', toks := tk' }) (F : Fr h₀ L h' m) (N : News h₀ L h' news) (e : y = x) : Q (.str y t) { s with heap := h', toks := tk' } :=
  hret _ _ _ ⟨t, by rw [e]⟩ F N
end

section
variable {h₀ h' : Heap} {L : Addr} {m : Str → Option Value} {news : List (Addr × Obj)} {s : Shared} {Q : Value → Shared → Prop} {t : Tok} {tk' : Nat}
theorem endP {x y : Int} {P : Prop} (hret : ∀ (v : Value) (h' : Heap) (tk' : Nat), (IsI x v ∧ P) → Fr h₀ L h' m → News h₀ L h' news → Q v { s with heap := h', toks := tk' }) (F : Fr h₀ L h' m) (N : News h₀ L h' news) (e : y = x) (p : P) : Q (.int y t) { s with heap := h', toks := tk' } :=
  hret _ _ _ ⟨⟨t, by rw [e]⟩, p⟩ F N
theorem end3 {x y z x' y' z' : Int} {r : Addr} {t1 t2 t3 : Tok} (hret : ∀ (r : Addr) (t1 t2 t3 : Tok) (h' : Heap) (tk' : Nat), Fr h₀ L h' m → News h₀ L h' ((r, { cls := .type "tuple", data := .seq #[.int x t1, .int y t2, .int z t3] }) :: news) → Q (.ref r) { s with heap := h', toks := tk' })
    (F : Fr h₀ L h' m) (N : News h₀ L h' ((r, { cls := .type "tuple", data := .seq #[.int x' t1, .int y' t2, .int z' t3] }) :: news)) (e1 : x' = x) (e2 : y' = y) (e3 : z' = z) : Q (.ref r) { s with heap := h', toks := tk' } := by
  subst e1 e2 e3
  exact hret _ _ _ _ _ _ F N
end

abbrev tup3 (x y z : Int) (t1 t2 t3 : Tok) : Obj := { cls := .type "tuple", data := .seq #[.int x t1, .int y t2, .int z t3] }

/-- a call that hands back a new tuple of three ints -/
def Ct3 (w : World) (mean : ExcName → Option Value) (mg mb : Str → Option Value) (f : Addr) (d : Nat) (news : List (Addr × Obj)) (vs : List Value) (x y z : Int) : Prop :=
  ∀ (dp un : Nat) (gd : Option (List Code)) (cn : Str) (cs : Scope) (a : Addr) (ccd : Value) (cl : List (Str × Addr)) (outer : List Env) (A₀ : Around) (base h₀ : Heap) (L : Addr) (m : Str → Option Value) (s : Shared) (Q E : Value → Shared → Prop),
    Below A₀ base outer h₀ → Fr h₀ L s.heap m → (Mine.hd.heap_39 w.params).In h₀ → News h₀ L s.heap news → Top VW LO mean mg mb h₀ → cs.kind = .function → dp + d < recursionLimit → un + 8 * d < cLine →
    (∀ (r : Addr) (t1 t2 t3 : Tok) (h' : Heap) (tk' : Nat), Fr h₀ L h' m → News h₀ L h' ((r, { cls := .type "tuple", data := .seq #[.int x t1, .int y t2, .int z t3] }) :: news) → Q (.ref r) { s with heap := h', toks := tk' }) →
    wpAny (model PySem.Challenge.rw_pb0330_01.row.prog w) (ktrTop dp un gd cn cs L a ccd cl outer) (call (.ref f) vs) Q E s

section
variable {w : World} {mean : ExcName → Option Value} {mg mb : Str → Option Value} {f : Addr} {d : Nat} {news : List (Addr × Obj)} {vs : List Value}
  {dp un : Nat} {gd : Option (List Code)} {cn : Str} {cs : Scope} {a : Addr} {ccd : Value} {cl : List (Str × Addr)} {outer : List Env} {A₀ : Around} {base h₀ : Heap} {L : Addr} {m : Str → Option Value} {s : Shared} {Q E : Value → Shared → Prop}
theorem use_ct {R : Value → Prop} (C : Ct w mean mg mb f d news vs R) (B : Below A₀ base outer h₀) (F : Fr h₀ L s.heap m) (X : (Mine.hd.heap_39 w.params).In h₀) (N : News h₀ L s.heap news) (T : Top VW LO mean mg mb h₀) (hk : cs.kind = .function)
    (hd : dp + d < recursionLimit) (hu : un + 8 * d < cLine)
    (ret : ∀ (v : Value) (h' : Heap) (tk' : Nat), R v → Fr h₀ L h' m → News h₀ L h' news → Q v { s with heap := h', toks := tk' }) :
    wpAny (model PySem.Challenge.rw_pb0330_01.row.prog w) (ktrTop dp un gd cn cs L a ccd cl outer) (call (.ref f) vs) Q E s := C _ _ _ _ _ _ _ _ _ _ _ _ _ _ _ _ _ B F X N T hk hd hu ret
theorem use_ct3 {x y z : Int} (C : Ct3 w mean mg mb f d news vs x y z) (B : Below A₀ base outer h₀) (F : Fr h₀ L s.heap m) (X : (Mine.hd.heap_39 w.params).In h₀) (N : News h₀ L s.heap news) (T : Top VW LO mean mg mb h₀) (hk : cs.kind = .function)
    (hd : dp + d < recursionLimit) (hu : un + 8 * d < cLine)
    (ret : ∀ (r : Addr) (t1 t2 t3 : Tok) (h' : Heap) (tk' : Nat), Fr h₀ L h' m → News h₀ L h' ((r, { cls := .type "tuple", data := .seq #[.int x t1, .int y t2, .int z t3] }) :: news) → Q (.ref r) { s with heap := h', toks := tk' }) :
    wpAny (model PySem.Challenge.rw_pb0330_01.row.prog w) (ktrTop dp un gd cn cs L a ccd cl outer) (call (.ref f) vs) Q E s := C _ _ _ _ _ _ _ _ _ _ _ _ _ _ _ _ _ B F X N T hk hd hu ret
end
section
variable {h₀ h : Heap} {L : Addr} {news : List (Addr × Obj)} {p q r : Addr × Obj}
theorem drop1 (N : News h₀ L h (p :: news)) : News h₀ L h news := fun _ hp => N _ (.tail _ hp)
theorem drop2 (N : News h₀ L h (p :: q :: news)) : News h₀ L h news := drop1 (drop1 N)
theorem drop3 (N : News h₀ L h (p :: q :: r :: news)) : News h₀ L h news := drop1 (drop2 N)
theorem keep1 (N : News h₀ L h (p :: q :: news)) : News h₀ L h (p :: news) := fun _ hp => N _ (by
  rcases List.mem_cons.mp hp with rfl | hp
  · exact .head _
  · exact .tail _ (.tail _ hp))
theorem FmIn.up1 {w : World} {x : Addr} {f : Fm} (h : FmIn w news x f) : FmIn w (p :: news) x f := h.more fun _ hp => .tail _ hp
theorem FmIn.up2 {w : World} {x : Addr} {f : Fm} (h : FmIn w news x f) : FmIn w (p :: q :: news) x f := h.up1.up1
theorem FmIn.up3 {w : World} {x : Addr} {f : Fm} (h : FmIn w news x f) : FmIn w (p :: q :: r :: news) x f := h.up1.up1.up1
end

theorem bitsLe {x : Int} {m n : Nat} (h : intBits x ≤ m) (k : m ≤ n) : intBits x ≤ n := Nat.le_trans h k

-- the pure readings
def joinF (f : Fm) (s e r : Int) : Int := (s * 2 ^ f.eb.toNat + e) * f.hid + r
def spS (f : Fm) (b : Int) : Int := (b.fdiv f.hid).fdiv (2 ^ f.eb.toNat)
def spE (f : Fm) (b : Int) : Int := Builtin.bitAnd (b.fdiv f.hid) f.top
def spF (f : Fm) (b : Int) : Int := b.fmod f.hid
def infF (f : Fm) (s : Int) : Int := joinF f s f.top 0
def nanF (f : Fm) : Int := joinF f 0 f.top (f.hid.fdiv 2)
def zeroF (f : Fm) (s : Int) : Int := joinF f s 0 0
def isNaN (f : Fm) (b : Int) : Bool := if spE f b = f.top then spF f b != 0 else spE f b == f.top
def isInf (f : Fm) (b : Int) : Bool := if spE f b = f.top then spF f b == 0 else spE f b == f.top
def isZ (f : Fm) (b : Int) : Bool := decide (b.fmod (f.hid * 2 ^ f.eb.toNat) = 0)
def unM (f : Fm) (b : Int) : Int := if spE f b = 0 then spF f b else f.hid + spF f b
def unE (f : Fm) (b : Int) : Int := if spE f b = 0 then f.least else f.least + spE f b - 1

/-- the number of bits -/
def blen (m : Int) : Int := if m ≤ 0 then 0 else (Nat.log2 m.toNat + 1 : Nat)

theorem lt_of_bits {m : Int} {n : Nat} (h : intBits m ≤ n) : m < 2 ^ n := by
  have h1 := PySem.intBits_le_iff.mp h
  have h2 : ((2 ^ n : Nat) : Int) = (2 : Int) ^ n := by simp
  omega
theorem pow_le_pow {a b : Nat} (h : a ≤ b) : (2 : Int) ^ a ≤ 2 ^ b := by
  have h1 : (2 : Nat) ^ a ≤ 2 ^ b := Nat.pow_le_pow_right (by decide) h
  have h2 : ((2 ^ a : Nat) : Int) = (2 : Int) ^ a := by simp
  have h3 : ((2 ^ b : Nat) : Int) = (2 : Int) ^ b := by simp
  omega
theorem pow_pos2 (n : Nat) : (0 : Int) < 2 ^ n := Int.pow_pos (by decide)
theorem lt_pow_self (n : Nat) : (n : Int) < 2 ^ n := by
  have h1 : n < 2 ^ n := Nat.lt_two_pow_self
  have h2 : ((2 ^ n : Nat) : Int) = (2 : Int) ^ n := by simp
  omega
theorem le_of_fdiv {m : Int} {k : Nat} (h : 0 < m.fdiv (2 ^ k)) : 2 ^ k ≤ m := by
  rw [Int.fdiv_eq_ediv_of_nonneg _ (Int.le_of_lt (pow_pos2 k))] at h
  have := Int.mul_ediv_self_le (x := m) (k := 2 ^ k) (by have := pow_pos2 k; omega)
  have h2 := Int.mul_le_mul_of_nonneg_left (show (1 : Int) ≤ m / 2 ^ k by omega) (Int.le_of_lt (pow_pos2 k))
  omega
theorem lt_of_fdiv {m : Int} {k : Nat} (h : ¬ 0 < m.fdiv (2 ^ k)) : m < 2 ^ k := by
  rw [Int.fdiv_eq_ediv_of_nonneg _ (Int.le_of_lt (pow_pos2 k))] at h
  have h1 := Int.lt_mul_ediv_self_add (x := m) (k := 2 ^ k) (pow_pos2 k)
  have h2 := Int.mul_le_mul_of_nonneg_left (show m / 2 ^ k ≤ 0 by omega) (Int.le_of_lt (pow_pos2 k))
  omega
def P2 (st : Int) : Prop := ∃ j : Nat, st = 2 ^ j
theorem w1_start : 1 ≤ (1 : Int) ∧ (1 : Int) ≤ 200000 ∧ P2 1 := ⟨by decide, by decide, 0, rfl⟩
theorem w1_grow {m st : Int} (hm : intBits m ≤ 100000) (h1 : 1 ≤ st) (hq : 0 < m.fdiv (2 ^ st.toNat)) : st < 100000 ∧ st < m := by
  have a1 := le_of_fdiv hq
  have a2 := lt_of_bits hm
  refine ⟨?_, ?_⟩
  · refine Int.not_le.mp fun hge => ?_
    have := pow_le_pow (a := 100000) (b := st.toNat) (by omega)
    omega
  · have := lt_pow_self st.toNat
    omega
theorem w1_turn {m st : Int} (hm : intBits m ≤ 100000) (h1 : 1 ≤ st) (hp : P2 st) (hq : 0 < m.fdiv (2 ^ st.toNat)) : 1 ≤ st * 2 ∧ st * 2 ≤ 200000 ∧ P2 (st * 2) := by
  obtain ⟨j, hj⟩ := hp
  obtain ⟨a, b⟩ := w1_grow hm h1 hq
  exact ⟨by omega, by omega, j + 1, by rw [hj, Int.pow_succ]⟩
theorem w1_less {m st : Int} (hm : intBits m ≤ 100000) (h1 : 1 ≤ st) (hq : 0 < m.fdiv (2 ^ st.toNat)) : m.toNat + 1 - (st * 2).toNat < m.toNat + 1 - st.toNat := by
  obtain ⟨a, b⟩ := w1_grow hm h1 hq
  omega

theorem cast_pow (n : Nat) : ((2 ^ n : Nat) : Int) = (2 : Int) ^ n := by simp
theorem blen_eq {m : Int} {k : Nat} (h1 : 2 ^ k ≤ m) (h2 : m < 2 ^ (k + 1)) : blen m = k + 1 := by
  have hp := pow_pos2 k
  have c1 := cast_pow k
  have c2 := cast_pow (k + 1)
  have e : Nat.log2 m.toNat = k := (Nat.log2_eq_iff (by omega)).mpr ⟨by omega, by omega⟩
  unfold blen
  rw [if_neg (by omega), e]
  omega
theorem blen_spec {m : Int} (h : 0 < m) : ∃ k : Nat, 2 ^ k ≤ m ∧ m < 2 ^ (k + 1) ∧ blen m = k + 1 := by
  have h1 := (Nat.log2_eq_iff (n := m.toNat) (k := Nat.log2 m.toNat) (by omega)).mp rfl
  have c1 := cast_pow (Nat.log2 m.toNat)
  have c2 := cast_pow (Nat.log2 m.toNat + 1)
  exact ⟨Nat.log2 m.toNat, by omega, by omega, blen_eq (by omega) (by omega)⟩
theorem blen_fdiv {m : Int} {k : Nat} (h : 0 < m.fdiv (2 ^ k)) : k + blen (m.fdiv (2 ^ k)) = blen m := by
  obtain ⟨j, h1, h2, h3⟩ := blen_spec h
  rw [h3]
  have hp := pow_pos2 k
  rw [Int.fdiv_eq_ediv_of_nonneg _ (Int.le_of_lt hp)] at h1 h2
  have e : blen m = ((j + k : Nat) : Int) + 1 := by
    refine blen_eq ?_ ?_
    · rw [Int.pow_add]
      have := (Int.le_ediv_iff_mul_le hp).mp h1
      exact this
    · have := (Int.ediv_lt_iff_lt_mul hp).mp h2
      rw [show j + k + 1 = (j + 1) + k by omega, Int.pow_add]
      exact this
  rw [e]
  omega
theorem blen_nonneg (m : Int) : 0 ≤ blen m := by
  unfold blen
  split
  · exact Int.le_refl 0
  · omega
theorem blen_le {m : Int} {n : Nat} (h : m < 2 ^ n) : blen m ≤ n := by
  by_cases h0 : 0 < m
  · obtain ⟨k, a, b, c⟩ := blen_spec h0
    rw [c]
    have : k < n := Nat.lt_of_not_le fun hge => by
      have := pow_le_pow hge
      omega
    omega
  · unfold blen
    rw [if_pos (by omega)]
    omega
theorem blen_bits {m : Int} {n : Nat} (h : intBits m ≤ n) : blen m ≤ n := blen_le (lt_of_bits h)

def P3 (m₀ m c st : Int) : Prop := intBits m ≤ 100000 ∧ 0 ≤ m ∧ c + blen m = blen m₀ ∧ ((st = 0 ∧ m < 2) ∨ ∃ j : Nat, st = 2 ^ j ∧ m < 2 ^ (2 * st.toNat))
theorem w2_start {m st : Int} (h0 : 0 ≤ m) (hb : intBits m ≤ 100000) (h1 : 1 ≤ st) (h2 : st ≤ 200000) (hp : P2 st) (hq : ¬ 0 < m.fdiv (2 ^ st.toNat)) : 0 ≤ st ∧ st ≤ 200000 ∧ P3 m m 0 st := by
  obtain ⟨j, hj⟩ := hp
  refine ⟨by omega, h2, hb, h0, by omega, .inr ⟨j, hj, ?_⟩⟩
  have a := lt_of_fdiv hq
  have b := pow_le_pow (a := st.toNat) (b := 2 * st.toNat) (by omega)
  omega
theorem half_pow (j : Nat) : ((2 : Int) ^ (j + 1)).fdiv 2 = 2 ^ j := by
  rw [Int.pow_succ, Int.fdiv_eq_ediv_of_nonneg _ (by decide)]
  omega
theorem p3_place {m m' st : Int} (h1 : 0 < st) (hj : (st = 0 ∧ m < 2) ∨ ∃ j : Nat, st = 2 ^ j ∧ m < 2 ^ (2 * st.toNat)) (hm : m' < 2 ^ st.toNat) :
    (st.fdiv 2 = 0 ∧ m' < 2) ∨ ∃ j : Nat, st.fdiv 2 = 2 ^ j ∧ m' < 2 ^ (2 * (st.fdiv 2).toNat) := by
  rcases hj with ⟨a, _⟩ | ⟨j, a, _⟩
  · omega
  · cases j with
    | zero =>
      have : st = 1 := a
      subst this
      exact .inl ⟨rfl, hm⟩
    | succ j =>
      refine .inr ⟨j, by rw [a, half_pow], ?_⟩
      have e : 2 * (st.fdiv 2).toNat = st.toNat := by
        rw [a, half_pow, Int.pow_succ]
        have := pow_pos2 j
        omega
      rw [e]
      exact hm
theorem fdiv2 (x : Int) : x.fdiv 2 = x / 2 := Int.fdiv_eq_ediv_of_nonneg _ (by decide)
theorem w2_turnA {m₀ m c st : Int} (h1 : 0 < st) (h2 : st ≤ 200000) (hp : P3 m₀ m c st) (hq : 0 < m.fdiv (2 ^ st.toNat)) : 0 ≤ st.fdiv 2 ∧ st.fdiv 2 ≤ 200000 ∧ P3 m₀ (m.fdiv (2 ^ st.toNat)) (c + st) (st.fdiv 2) := by
  obtain ⟨a, b, e, d⟩ := hp
  have f := fdiv2 st
  refine ⟨by omega, by omega, Nat.le_trans (PySem.intBits_fdiv_le (Nat.le_refl _)) a, by omega, ?_, p3_place h1 d ?_⟩
  · have := blen_fdiv hq
    omega
  · rcases d with ⟨d, _⟩ | ⟨j, _, d⟩
    · omega
    · have hp := pow_pos2 st.toNat
      rw [Int.fdiv_eq_ediv_of_nonneg _ (Int.le_of_lt hp)]
      refine (Int.ediv_lt_iff_lt_mul hp).mpr ?_
      rw [← Int.pow_add]
      rw [show st.toNat + st.toNat = 2 * st.toNat by omega]
      exact d
theorem w2_turnB {m₀ m c st : Int} (h1 : 0 < st) (h2 : st ≤ 200000) (hp : P3 m₀ m c st) (hq : ¬ 0 < m.fdiv (2 ^ st.toNat)) : 0 ≤ st.fdiv 2 ∧ st.fdiv 2 ≤ 200000 ∧ P3 m₀ m c (st.fdiv 2) := by
  obtain ⟨a, b, e, d⟩ := hp
  have f := fdiv2 st
  exact ⟨by omega, by omega, a, b, e, p3_place h1 d (lt_of_fdiv hq)⟩
theorem w2_less {st : Int} (h1 : 0 < st) : (st.fdiv 2).toNat < st.toNat := by
  have f := fdiv2 st
  omega
theorem w2_end1 {m₀ m c st : Int} (h0 : 0 ≤ st) (h1 : ¬ 0 < st) (hp : P3 m₀ m c st) (hq : 0 < m) : c + 1 = blen m₀ := by
  obtain ⟨a, b, e, d⟩ := hp
  rcases d with ⟨_, d⟩ | ⟨j, d, _⟩
  · have : blen m = 1 := by rw [show m = 1 by omega]; decide
    omega
  · have := pow_pos2 j
    omega
theorem w2_end0 {m₀ m c st : Int} (hp : P3 m₀ m c st) (hq : ¬ 0 < m) : c + 0 = blen m₀ := by
  obtain ⟨a, b, e, d⟩ := hp
  have : blen m = 0 := by unfold blen; rw [if_pos (by omega)]
  omega

theorem hidpow_ne {f : Fm} (hf : FmB f) : f.hid * 2 ^ f.eb.toNat ≠ 0 := by
  have h1 := hf.h0
  have h2 := pow_pos2 f.eb.toNat
  exact Int.mul_ne_zero (by omega) (by omega)
theorem bits_pow300 {n : Int} (h : n ≤ 300) : intBits ((2 : Int) ^ n.toNat) ≤ 301 := by
  refine PySem.intBits_le_iff.mpr ?_
  have h1 := cast_pow n.toNat
  have h2 : (2 : Nat) ^ n.toNat < 2 ^ 301 := Nat.pow_lt_pow_right (by decide) (by omega)
  have h3 : ((2 : Int) ^ n.toNat).natAbs = 2 ^ n.toNat := by rw [← h1, Int.natAbs_natCast]
  rw [h3]
  exact h2

-- the roundings
def rsF (m sh : Int) (rest : Bool) : Int :=
  if sh ≤ 0 then m * 2 ^ (0 - sh).toNat
  else if 1 * 2 ^ (sh - 1).toNat < m - m.fdiv (2 ^ sh.toNat) * 2 ^ sh.toNat then m.fdiv (2 ^ sh.toNat) + 1
  else if m - m.fdiv (2 ^ sh.toNat) * 2 ^ sh.toNat = 1 * 2 ^ (sh - 1).toNat then (if rest = true then m.fdiv (2 ^ sh.toNat) + 1 else if (m.fdiv (2 ^ sh.toNat)).fmod 2 = 1 then m.fdiv (2 ^ sh.toNat) + 1 else m.fdiv (2 ^ sh.toNat))
  else m.fdiv (2 ^ sh.toNat)
def packTail (f : Fm) (s p k : Int) : Int := if k < f.hid then joinF f s 0 k else if f.top ≤ p - f.least + 1 then infF f s else joinF f s (p - f.least + 1) (k - f.hid)
def placeF (f : Fm) (m e : Int) : Int := if f.least > e + blen m - f.fb - 1 then f.least else e + blen m - f.fb - 1
def packF (f : Fm) (s m e : Int) (rest : Bool) : Int :=
  if m = 0 then zeroF f s
  else if rsF m (placeF f m e - e) rest = f.hid * 2 ^ Int.toNat 1 then packTail f s (placeF f m e + 1) f.hid
  else packTail f s (placeF f m e) (rsF m (placeF f m e - e) rest)
theorem rsF_or {m sh : Int} (rest : Bool) (h : 0 < sh) : rsF m sh rest = m.fdiv (2 ^ sh.toNat) ∨ rsF m sh rest = m.fdiv (2 ^ sh.toNat) + 1 := by
  unfold rsF
  rw [if_neg (by omega)]
  repeat' split
  all_goals first | exact .inl rfl | exact .inr rfl
theorem rsF_bits {m sh : Int} {rest : Bool} (hm : intBits m ≤ 90000) (hs : -300 ≤ sh) : intBits (rsF m sh rest) ≤ 91000 := by
  by_cases h : sh ≤ 0
  · unfold rsF
    rw [if_pos h]
    exact Nat.le_trans (PySem.intBits_mul_le hm (bits_pow300 (by omega))) (by decide)
  · have h1 : intBits (m.fdiv (2 ^ sh.toNat)) ≤ 90000 := PySem.intBits_fdiv_le hm
    rcases rsF_or (m := m) rest (show 0 < sh by omega) with e | e <;> rw [e]
    · exact Nat.le_trans h1 (by decide)
    · exact Nat.le_trans (PySem.intBits_add_le h1 (n := 1) (by decide)) (by decide)
theorem rsF_nonneg {m sh : Int} {rest : Bool} (hm : 0 ≤ m) : 0 ≤ rsF m sh rest := by
  by_cases h : sh ≤ 0
  · unfold rsF
    rw [if_pos h]
    exact Int.mul_nonneg hm (Int.le_of_lt (pow_pos2 _))
  · have h1 : 0 ≤ m.fdiv (2 ^ sh.toNat) := by
      rw [Int.fdiv_eq_ediv_of_nonneg _ (Int.le_of_lt (pow_pos2 _))]
      exact Int.ediv_nonneg hm (Int.le_of_lt (pow_pos2 _))
    rcases rsF_or (m := m) rest (show 0 < sh by omega) with e | e <;> rw [e] <;> omega

theorem and_range {x y : Int} (hx : 0 ≤ x) (hy : 0 ≤ y) : 0 ≤ Builtin.bitAnd x y ∧ Builtin.bitAnd x y ≤ y := by
  rw [bitAnd_pp hx hy]
  have := @Nat.and_le_right x.toNat y.toNat
  omega
theorem fdiv_nonneg {x y : Int} (hx : 0 ≤ x) (hy : 0 < y) : 0 ≤ x.fdiv y := by
  rw [Int.fdiv_eq_ediv_of_nonneg _ (Int.le_of_lt hy)]
  exact Int.ediv_nonneg hx (Int.le_of_lt hy)
theorem fmod_range (x : Int) {y : Int} (hy : 0 < y) : 0 ≤ x.fmod y ∧ x.fmod y < y := by
  rw [Int.fmod_eq_emod_of_nonneg _ (Int.le_of_lt hy)]
  exact ⟨Int.emod_nonneg _ (by omega), Int.emod_lt_of_pos _ hy⟩
theorem spE_range {f : Fm} (hf : FmB f) {b : Int} (hb : 0 ≤ b) : 0 ≤ spE f b ∧ spE f b ≤ f.top :=
  and_range (fdiv_nonneg hb (by have := hf.h0; omega)) (by have := hf.t0; omega)
theorem spF_range {f : Fm} (hf : FmB f) (b : Int) : 0 ≤ spF f b ∧ spF f b < f.hid := fmod_range b (by have := hf.h0; omega)
theorem un_range {f : Fm} (hf : FmB f) {b : Int} (hb : 0 ≤ b) : 0 ≤ unM f b ∧ unM f b ≤ 16777216 ∧ f.least ≤ unE f b ∧ unE f b ≤ 254 := by
  have h1 := spE_range hf hb
  have h2 := spF_range hf b
  obtain ⟨e0, e1, f0, f1, b0, b1, q0, q1, i0, i1, l0, l1⟩ := hf
  unfold unM unE
  by_cases h : spE f b = 0
  · rw [if_pos h, if_pos h]; omega
  · rw [if_neg h, if_neg h]; omega


-- cuts: a piece that ends one way in several paths is told once
def CutV (h₀ : Heap) (L : Addr) (m : Str → Option Value) (news : List (Addr × Obj)) (X : Int) (s : Shared) (v : Value) (s' : Shared) : Prop :=
  ∃ (t : Tok) (h' : Heap) (tk' : Nat), v = .int X t ∧ s' = { s with heap := h', toks := tk' } ∧ Fr h₀ L h' m ∧ News h₀ L h' news
def CutS (h₀ : Heap) (L : Addr) (m : Str → Option Value) (news : List (Addr × Obj)) (name : Str) (X : Int) (s : Shared) (fl : Flow) (s' : Shared) : Prop :=
  ∃ (t : Tok) (h' : Heap) (tk' : Nat), fl = .next ∧ s' = { s with heap := h', toks := tk' } ∧ Fr h₀ L h' (fun y => if y = name then some (.int X t) else m y) ∧ News h₀ L h' news
def CutT (h₀ : Heap) (L : Addr) (m : Str → Option Value) (news : List (Addr × Obj)) (X : Bool) (s : Shared) (v : Bool) (s' : Shared) : Prop :=
  ∃ (h' : Heap) (tk' : Nat), v = X ∧ s' = { s with heap := h', toks := tk' } ∧ Fr h₀ L h' m ∧ News h₀ L h' news
section
variable {prog : Program} {w : World} {A : Around} {E : Value → Shared → Prop} {s : Shared} {h₀ h' : Heap} {L : Addr} {m : Str → Option Value} {news : List (Addr × Obj)}
theorem cut_v {T : Sem Value} {Q : Value → Shared → Prop} (X : Int) (_F : Fr h₀ L s.heap m) (_N : News h₀ L s.heap news) (h1 : wpAny (model prog w) A T (CutV h₀ L m news X s) E s)
    (h2 : ∀ (t : Tok) (h' : Heap) (tk' : Nat), Fr h₀ L h' m → News h₀ L h' news → Q (.int X t) { s with heap := h', toks := tk' }) : wpAny (model prog w) A T Q E s :=
  wpAny_mono h1 (fun v s' ⟨t, h', tk', e1, e2, F', N'⟩ => by rw [e1, e2]; exact h2 t h' tk' F' N') fun _ _ x => x
theorem cut_s {T : Sem Flow} {Q : Flow → Shared → Prop} (name : Str) (X : Int) (_F : Fr h₀ L s.heap m) (_N : News h₀ L s.heap news) (h1 : wpAny (model prog w) A T (CutS h₀ L m news name X s) E s)
    (h2 : ∀ (t : Tok) (h' : Heap) (tk' : Nat), Fr h₀ L h' (fun y => if y = name then some (.int X t) else m y) → News h₀ L h' news → Q .next { s with heap := h', toks := tk' }) : wpAny (model prog w) A T Q E s :=
  wpAny_mono h1 (fun fl s' ⟨t, h', tk', e1, e2, F', N'⟩ => by rw [e1, e2]; exact h2 t h' tk' F' N') fun _ _ x => x
theorem cut_t {T : Sem Bool} {Q : Bool → Shared → Prop} (X : Bool) (_F : Fr h₀ L s.heap m) (_N : News h₀ L s.heap news) (h1 : wpAny (model prog w) A T (CutT h₀ L m news X s) E s)
    (h2 : ∀ (h' : Heap) (tk' : Nat), Fr h₀ L h' m → News h₀ L h' news → Q X { s with heap := h', toks := tk' }) : wpAny (model prog w) A T Q E s :=
  wpAny_mono h1 (fun v s' ⟨h', tk', e1, e2, F', N'⟩ => by rw [e1, e2]; exact h2 h' tk' F' N') fun _ _ x => x
theorem cut_v_end {X v : Int} {t : Tok} {tk' : Nat} (F' : Fr h₀ L h' m) (N' : News h₀ L h' news) (e : v = X) : CutV h₀ L m news X s (.int v t) { s with heap := h', toks := tk' } := ⟨t, h', tk', by rw [e], rfl, F', N'⟩
theorem cut_t_end {X v : Bool} {tk' : Nat} (F' : Fr h₀ L h' m) (N' : News h₀ L h' news) (e : v = X) : CutT h₀ L m news X s v { s with heap := h', toks := tk' } := ⟨h', tk', e, rfl, F', N'⟩
theorem cut_s_end {m' : Str → Option Value} {name : Str} {X v : Int} {t : Tok} {tk' : Nat} (F' : Fr h₀ L h' m') (N' : News h₀ L h' news) (hm : m' name = some (.int v t)) (hr : ∀ y, y ≠ name → m' y = m y) (e : v = X) : CutS h₀ L m news name X s .next { s with heap := h', toks := tk' } := by
  subst e
  refine ⟨t, h', tk', rfl, rfl, ?_, N'⟩
  have em : (fun y => if y = name then some (Value.int v t) else m y) = m' := by
    funext y
    by_cases h : y = name
    · rw [if_pos h, h, hm]
    · rw [if_neg h, hr y h]
  rw [em]
  exact F'
end
theorem join_eq {c : Prop} [Decidable c] {r x y : Int} (h : c ∧ r = x ∨ ¬ c ∧ r = y) : r = if c then x else y := by
  rcases h with ⟨h1, h2⟩ | ⟨h1, h2⟩
  · rw [if_pos h1, h2]
  · rw [if_neg h1, h2]

theorem fdiv_le_self {x y : Int} (hx : 0 ≤ x) (hy : 0 < y) : x.fdiv y ≤ x := by
  rw [Int.fdiv_eq_ediv_of_nonneg _ (Int.le_of_lt hy)]
  exact Int.ediv_le_self _ hx
theorem sp_rng {f : Fm} (hf : FmB f) {b : Int} (h0 : 0 ≤ b) (h1 : b ≤ 4294967295) :
    0 ≤ spS f b ∧ spS f b ≤ 4294967295 ∧ 0 ≤ spE f b ∧ spE f b ≤ f.top ∧ 0 ≤ spF f b ∧ spF f b < f.hid ∧ 0 ≤ unM f b ∧ unM f b ≤ 16777216 ∧ f.least ≤ unE f b ∧ unE f b ≤ 254 := by
  have a1 := spE_range hf h0
  have a2 := spF_range hf b
  have a3 := un_range hf h0
  have hi := hf.h0
  have c1 : 0 ≤ b.fdiv f.hid := fdiv_nonneg h0 (by omega)
  have c2 : b.fdiv f.hid ≤ b := fdiv_le_self h0 (by omega)
  have c3 : 0 ≤ spS f b := fdiv_nonneg c1 (pow_pos2 _)
  have c4 : spS f b ≤ b.fdiv f.hid := fdiv_le_self c1 (pow_pos2 _)
  omega
theorem and_range' {x y : Int} (hx : 0 ≤ x) (hy : 0 ≤ y) : 0 ≤ Builtin.bitAnd x y ∧ Builtin.bitAnd x y ≤ y ∧ Builtin.bitAnd x y ≤ x := by
  rw [bitAnd_pp hx hy]
  have := @Nat.and_le_right x.toNat y.toNat
  have := @Nat.and_le_left x.toNat y.toNat
  omega
theorem xor_rng {x y : Int} (hx : 0 ≤ x) (hx1 : x ≤ 4294967295) (hy : 0 ≤ y) (hy1 : y ≤ 4294967295) : 0 ≤ Builtin.bitXor x y ∧ Builtin.bitXor x y ≤ 8589934590 := by
  have := and_range' hx hy
  rw [bitXor_and x y]
  omega

def negF (f : Fm) (b : Int) : Int := if isNaN f b = true then nanF f else joinF f (1 - spS f b) (spE f b) (spF f b)
def absF (f : Fm) (b : Int) : Int := if isNaN f b = true then nanF f else joinF f 0 (spE f b) (spF f b)

theorem bits_pow900 {n : Int} (h : n ≤ 900) : intBits ((2 : Int) ^ n.toNat) ≤ 901 := by
  refine PySem.intBits_le_iff.mpr ?_
  have h1 := cast_pow n.toNat
  have h2 : (2 : Nat) ^ n.toNat < 2 ^ 901 := Nat.pow_lt_pow_right (by decide) (by omega)
  have h3 : ((2 : Int) ^ n.toNat).natAbs = 2 ^ n.toNat := by rw [← h1, Int.natAbs_natCast]
  rw [h3]
  exact h2
def loF (f : Fm) (a b : Int) : Int := if unE f b < unE f a then unE f b else unE f a
def upF (f : Fm) (a lo : Int) : Int := unM f a * 2 ^ (unE f a - lo).toNat
def addTail (f : Fm) (sg t lo : Int) : Int := if t = 0 then zeroF f sg else if t < 0 then packF f 1 (0 - t) lo false else packF f 0 t lo false
def sgU (f : Fm) (a lo : Int) : Int := if spS f a = 1 then 0 - upF f a lo else upF f a lo
def addFin (f : Fm) (a b : Int) : Int := addTail f (Builtin.bitAnd (spS f a) (spS f b)) (sgU f a (loF f a b) + sgU f b (loF f a b)) (loF f a b)
theorem sgU_bits {f : Fm} {a lo : Int} (h0 : 0 ≤ unM f a) (h1 : unM f a ≤ 16777216) (h2 : unE f a - lo ≤ 900) : intBits (sgU f a lo) ≤ 1000 := by
  have h3 : intBits (upF f a lo) ≤ 990 := Nat.le_trans (PySem.intBits_mul_le (PySem.intBits_le_64 (by omega) (by omega)) (bits_pow900 h2)) (by decide)
  unfold sgU
  split
  · exact Nat.le_trans (PyProof.Rows.bits_sub (m := 64) (n := 990) (PySem.intBits_le_64 (by omega) (by omega)) h3) (by decide)
  · exact Nat.le_trans h3 (by decide)

def addF (f : Fm) (a b : Int) : Int :=
  if isNaN f a = true then nanF f else if isNaN f b = true then nanF f
  else if isInf f a = true then (if isInf f b = true then (if spS f a = spS f b then a else nanF f) else a)
  else if isInf f b = true then b else addFin f a b
def sgF (f : Fm) (a b : Int) : Int := Builtin.bitXor (spS f a) (spS f b)
def mulF (f : Fm) (a b : Int) : Int :=
  if isNaN f a = true then nanF f else if isNaN f b = true then nanF f
  else if isInf f a = true then (if isZ f a = true then nanF f else if isZ f b = true then nanF f else infF f (sgF f a b))
  else if isInf f b = true then (if isZ f a = true then nanF f else if isZ f b = true then nanF f else infF f (sgF f a b))
  else packF f (sgF f a b) (unM f a * unM f b) (unE f a + unE f b) false
def shF (f : Fm) (o u : Int) : Int := if 0 > f.fb + 4 + blen u - blen o then 0 else f.fb + 4 + blen u - blen o
def quF (f : Fm) (o u : Int) : Int := (o * 2 ^ (shF f o u).toNat).fdiv u
def fromF (f : Fm) (sg o u e : Int) : Int := packF f sg (quF f o u) (e - shF f o u) (quF f o u * u != o * 2 ^ (shF f o u).toNat)
def divF (f : Fm) (a b : Int) : Int :=
  if isNaN f a = true then nanF f else if isNaN f b = true then nanF f
  else if isInf f a = true then (if isInf f b = true then nanF f else infF f (sgF f a b))
  else if isInf f b = true then zeroF f (sgF f a b)
  else if isZ f b = true then (if isZ f a = true then nanF f else infF f (sgF f a b))
  else fromF f (sgF f a b) (unM f a) (unM f b) (unE f a - unE f b)
theorem ratio_nonneg {o u : Int} {n : Nat} (ho : 0 ≤ o) (hu : 0 < u) : 0 ≤ (o * 2 ^ n).fdiv u :=
  fdiv_nonneg (Int.mul_nonneg ho (Int.le_of_lt (pow_pos2 n))) hu
theorem blen25 {m : Int} (h : m ≤ 16777216) : blen m ≤ 25 := blen_le (n := 25) (by omega)

theorem use_hz {f : Fm} {b : Int} (h : isZ f b ≠ true → 0 < unM f b) (e : isZ f b = false) : 0 < unM f b := h (Bool.eq_false_iff.mp e)


def spanF (f : Fm) : Int := 2 ^ (f.eb + f.fb).toNat
def topF (f : Fm) : Int := (2 ^ f.eb.toNat - 1) * 2 ^ f.fb.toNat
def sizeF (f : Fm) (p : Int) : Int := if p < 2 ^ f.fb.toNat then p else (2 ^ f.fb.toNat + p.fmod (2 ^ f.fb.toNat)) * 2 ^ (p.fdiv (2 ^ f.fb.toNat) - 1).toNat
def kindF (f : Fm) (n : Int) : Str := if topF f < n.fmod (spanF f) then Str.ofString "none" else if n.fmod (spanF f) = topF f then Str.ofString "endless" else Str.ofString "finite"
def sideF (f : Fm) (n : Int) : Int := n.fdiv (spanF f)
def exactF (f : Fm) (n : Int) : Int := sizeF f (n.fmod (spanF f))

theorem span_eq {f : Fm} (hf : FmB f) : spanF f = 2 ^ f.eb.toNat * 2 ^ f.fb.toNat := by
  have h1 := hf.e0
  have h2 := hf.f0
  unfold spanF
  rw [← Int.pow_add]
  congr 1
  omega
theorem pow_eb {f : Fm} (hf : FmB f) : 4 ≤ (2 : Int) ^ f.eb.toNat ∧ (2 : Int) ^ f.eb.toNat ≤ 256 := by
  have h1 := hf.e0
  have h2 := hf.e1
  exact ⟨pow_le_pow (a := 2) (by omega), pow_le_pow (b := 8) (by omega)⟩
theorem pow_fb {f : Fm} (hf : FmB f) : 2 ≤ (2 : Int) ^ f.fb.toNat ∧ (2 : Int) ^ f.fb.toNat ≤ 8388608 := by
  have h1 := hf.f0
  have h2 := hf.f1
  exact ⟨pow_le_pow (a := 1) (by omega), pow_le_pow (b := 23) (by omega)⟩
theorem span_rng {f : Fm} (hf : FmB f) : 8 ≤ spanF f ∧ spanF f ≤ 2147483648 := by
  have h1 := hf.e0
  have h2 := hf.e1
  have h3 := hf.f0
  have h4 := hf.f1
  exact ⟨pow_le_pow (a := 3) (by omega), pow_le_pow (b := 31) (by omega)⟩
theorem top_span {f : Fm} (hf : FmB f) : topF f = spanF f - 2 ^ f.fb.toNat := by
  rw [span_eq hf]
  unfold topF
  rw [Int.sub_mul, Int.one_mul]
theorem top_rng {f : Fm} (hf : FmB f) : 0 ≤ topF f ∧ topF f < spanF f := by
  have h1 := pow_fb hf
  have h2 := pow_eb hf
  have h3 := top_span hf
  have h4 : 0 ≤ topF f := Int.mul_nonneg (by omega) (by omega)
  omega
theorem place_hi {f : Fm} (hf : FmB f) {p : Int} (h0 : 0 ≤ p) (h : p ≤ spanF f) : p.fdiv (2 ^ f.fb.toNat) ≤ 256 := by
  have h1 := pow_fb hf
  have h2 := pow_eb hf
  rw [Int.fdiv_eq_ediv_of_nonneg _ (by omega)]
  rw [span_eq hf] at h
  have := Int.ediv_le_ediv (by omega : 0 < (2 : Int) ^ f.fb.toNat) h
  rw [Int.mul_ediv_cancel _ (by omega)] at this
  omega
theorem place_lo {f : Fm} (hf : FmB f) {p : Int} (h : ¬ p < 2 ^ f.fb.toNat) : 1 ≤ p.fdiv (2 ^ f.fb.toNat) := by
  have h1 := pow_fb hf
  rw [Int.fdiv_eq_ediv_of_nonneg _ (by omega)]
  exact (Int.le_ediv_iff_mul_le (by omega)).mpr (by omega)
theorem size_nonneg {f : Fm} (hf : FmB f) {p : Int} (h0 : 0 ≤ p) : 0 ≤ sizeF f p := by
  have h1 := pow_fb hf
  have h2 := fmod_range p (y := 2 ^ f.fb.toNat) (by omega)
  unfold sizeF
  split
  · exact h0
  · exact Int.mul_nonneg (by omega) (Int.le_of_lt (pow_pos2 _))
theorem size_bits {f : Fm} (hf : FmB f) {p : Int} (h0 : 0 ≤ p) (h : p ≤ spanF f) : intBits (sizeF f p) ≤ 400 := by
  have h1 := pow_fb hf
  have h2 := fmod_range p (y := 2 ^ f.fb.toNat) (by omega)
  have h3 := place_hi hf h0 h
  unfold sizeF
  split
  · exact Nat.le_trans (PySem.intBits_le_64 (by omega) (by omega)) (by decide)
  · exact Nat.le_trans (PySem.intBits_mul_le (PySem.intBits_le_64 (by omega) (by omega)) (bits_pow300 (by omega))) (by decide)
theorem fm_rng {f : Fm} (hf : FmB f) (n : Int) : 0 ≤ n.fmod (spanF f) ∧ n.fmod (spanF f) ≤ spanF f := by
  have h1 := span_rng hf
  have h2 := fmod_range n (y := spanF f) (by omega)
  omega
theorem span_ne {f : Fm} (hf : FmB f) : spanF f ≠ 0 := by
  have h1 := span_rng hf
  omega
theorem bits_span {f : Fm} (hf : FmB f) : intBits (spanF f) ≤ 64 := by
  have h1 := span_rng hf
  exact PySem.intBits_le_64 (by omega) (by omega)
theorem bits_top {f : Fm} (hf : FmB f) : intBits (topF f) ≤ 64 := by
  have h1 := span_rng hf
  have h2 := top_rng hf
  exact PySem.intBits_le_64 (by omega) (by omega)

theorem py_span {f : Fm} (hf : FmB f) : (spanF f).natAbs.log2 < 9000 := by
  have h1 := span_rng hf
  refine (Nat.log2_lt (by omega)).mpr ?_
  have h2 : (2 : Nat) ^ 32 ≤ 2 ^ 9000 := Nat.pow_le_pow_right (by decide) (by decide)
  omega
theorem my_endW {h₀ h' : Heap} {L I T : Addr} {s₁ : Shared} {o tup : Obj} {tk : Nat} {m' : Str → Option Value} {news : List (Addr × Obj)} {rest : (Str → Option Value) → List (Addr × Obj) → Prop}
    (l1 : ∀ p ∈ (T, tup) :: news, p.1 < I) (F : Fr h₀ L h' m') (N : News h₀ L h' ((I, o) :: (T, tup) :: news)) (r : rest m' ((T, tup) :: news)) : UnrEndW h₀ L s₁ [(I, o)] rest { s₁ with heap := h', toks := tk } :=
  ⟨h', tk, m', _, rfl, F, N, fun p hp q hq => by
    rw [List.mem_singleton.mp hq]
    exact Nat.ne_of_lt (l1 p hp), r⟩

def absI (x : Int) : Int := if x < 0 then -x else x
def gapF (f : Fm) (p ov un : Int) : Int := absI (sizeF f p * un - ov)
def okF (f : Fm) (p b ov un : Int) (k : Bool) : Bool :=
  if b < 0 then k else if topF f < b then k else if gapF f b ov un < gapF f p ov un then false
  else if gapF f b ov un = gapF f p ov un then (if p.fmod 2 = 1 then false else k) else k
def fitsF (f : Fm) (n sd ov un : Int) : Bool :=
  if sideF f n = sd then (if topF f < n.fmod (spanF f) then false else okF f (n.fmod (spanF f)) (n.fmod (spanF f) - 1) ov un (okF f (n.fmod (spanF f)) (n.fmod (spanF f) + 1) ov un true)) else false
theorem side_rng {f : Fm} (hf : FmB f) {n : Int} (h0 : 0 ≤ n) (h1 : n ≤ 4294967295) : 0 ≤ sideF f n ∧ sideF f n ≤ 4294967295 := by
  have h2 := span_rng hf
  have h3 := fdiv_nonneg (x := n) (y := spanF f) h0 (by omega)
  have h4 := fdiv_le_self (x := n) (y := spanF f) h0 (by omega)
  exact ⟨h3, by unfold sideF; omega⟩

def sgx (f : Fm) (n : Int) : Int := if sideF f n = 0 then exactF f n else 0 - exactF f n
def sumTail (f : Fm) (fo sab t : Int) : Bool := fitsF f fo (if t = 0 then sab else if t < 0 then 1 else 0) (absI t) 1
def sumR (f : Fm) (a b fo : Int) : Bool :=
  if (kindF f a == Str.ofString "none") = true then fo == nanF f else if (kindF f b == Str.ofString "none") = true then fo == nanF f
  else if (kindF f a == Str.ofString "endless") = true then (if (kindF f b == Str.ofString "endless") = true then (if sideF f a = sideF f b then fo == a else fo == nanF f) else fo == a)
  else if (kindF f b == Str.ofString "endless") = true then fo == b
  else sumTail f fo (sideF f a * sideF f b) (sgx f a + sgx f b)
theorem sgx_bits {f : Fm} (hf : FmB f) (n : Int) : intBits (sgx f n) ≤ 402 := by
  have h := fm_rng hf n
  have h3 : intBits (exactF f n) ≤ 400 := size_bits hf h.1 h.2
  unfold sgx
  split
  · exact Nat.le_trans h3 (by decide)
  · exact Nat.le_trans (PyProof.Rows.bits_sub (m := 64) (n := 400) (PySem.intBits_le_64 (by omega) (by omega)) h3) (by decide)
def sdF (f : Fm) (a b : Int) : Int := (sideF f a + sideF f b).fmod 2
def infB (f : Fm) (a b fo : Int) : Bool := if (kindF f b == Str.ofString "finite") = true then (if exactF f b = 0 then fo == nanF f else fo == sdF f a b * spanF f + topF f) else fo == sdF f a b * spanF f + topF f
def infA (f : Fm) (a b fo : Int) : Bool := if (kindF f a == Str.ofString "finite") = true then (if exactF f a = 0 then fo == nanF f else infB f a b fo) else infB f a b fo
def prodR (f : Fm) (a b fo : Int) : Bool :=
  if (kindF f a == Str.ofString "none") = true then fo == nanF f else if (kindF f b == Str.ofString "none") = true then fo == nanF f
  else if (kindF f a == Str.ofString "endless") = true then infA f a b fo else if (kindF f b == Str.ofString "endless") = true then infA f a b fo
  else fitsF f fo (sdF f a b) (exactF f a * exactF f b) (2 ^ (f.bias - 1 + f.fb).toNat)
def quoR (f : Fm) (a b fo : Int) : Bool :=
  if (kindF f a == Str.ofString "none") = true then fo == nanF f else if (kindF f b == Str.ofString "none") = true then fo == nanF f
  else if (kindF f a == Str.ofString "endless") = true then (if (kindF f b == Str.ofString "endless") = true then fo == nanF f else fo == sdF f a b * spanF f + topF f)
  else if (kindF f b == Str.ofString "endless") = true then fo == sdF f a b * spanF f
  else if exactF f b = 0 then (if exactF f a = 0 then fo == nanF f else fo == sdF f a b * spanF f + topF f)
  else fitsF f fo (sdF f a b) (exactF f a * 2 ^ (f.bias - 1 + f.fb).toNat) (exactF f b)


abbrev wob (a : Int) (t1 : Tok) (b : Int) (t2 : Tok) (S : Addr) : Obj := PySem.W.listOf #[.int a t1, .int b t2, .ref S] 0

def CtW (w : World) (mean : ExcName → Option Value) (mg mb : Str → Option Value) (f : Addr) (d : Nat) (W S : Addr) (a : Int) (t1 : Tok) (b : Int) (t2 : Tok) (news : List (Addr × Obj)) (vs : List Value) (R : Value → Int → Int → Prop) : Prop :=
  ∀ (dp un : Nat) (gd : Option (List Code)) (cn : Str) (cs : Scope) (ad : Addr) (ccd : Value) (cl : List (Str × Addr)) (outer : List Env) (A₀ : Around) (base h₀ : Heap) (L : Addr) (m : Str → Option Value) (s : Shared) (Q E : Value → Shared → Prop),
    Below A₀ base outer h₀ → Fr h₀ L s.heap m → (Mine.hd.heap_39 w.params).In h₀ → News h₀ L s.heap ((W, wob a t1 b t2 S) :: news) → Top VW LO mean mg mb h₀ → cs.kind = .function → dp + d < recursionLimit → un + 8 * d < cLine →
    (∀ (v : Value) (a' : Int) (t1' : Tok) (b' : Int) (t2' : Tok) (h' : Heap) (tk' : Nat), R v a' b' → Fr h₀ L h' m → News h₀ L h' ((W, wob a' t1' b' t2' S) :: news) → Q v { s with heap := h', toks := tk' }) →
    wpAny (model PySem.Challenge.rw_pb0330_01.row.prog w) (ktrTop dp un gd cn cs L ad ccd cl outer) (call (.ref f) vs) Q E s

/-- what is known of the well's list -/
structure WellS (news : List (Addr × Obj)) (S : Addr) (ws : List Value) (ns : List Int) : Prop where
  isin : (S, PySem.W.listOf ws.toArray 0) ∈ news
  are : IntsAre ws ns
  low : 1 ≤ ns.length
  high : ns.length ≤ 40
  cells : ∀ x ∈ ns, intBits x ≤ 2000000

theorem endW {h₀ h' : Heap} {L W S : Addr} {m : Str → Option Value} {news : List (Addr × Obj)} {s : Shared} {Q : Value → Shared → Prop} {t1 t2 : Tok} {tk' : Nat} {R : Value → Int → Int → Prop} {v : Value} {a b : Int}
    (hret : ∀ (v : Value) (a' : Int) (t1' : Tok) (b' : Int) (t2' : Tok) (h' : Heap) (tk' : Nat), R v a' b' → Fr h₀ L h' m → News h₀ L h' ((W, wob a' t1' b' t2' S) :: news) → Q v { s with heap := h', toks := tk' })
    (F : Fr h₀ L h' m) (N : News h₀ L h' ((W, wob a t1 b t2 S) :: news)) (r : R v a b) : Q v { s with heap := h', toks := tk' } :=
  hret _ _ _ _ _ _ _ r F N

theorem my_item {prog : Program} {w : World} {A : Around} {E : Value → Shared → Prop} {s : Shared} {h₀ : Heap} {L S : Addr} {news : List (Addr × Obj)} {value slice : PySem.Expr} {ws : List Value} {ns : List Int} {k : Int} {u : Tok} {Q : Value → Shared → Prop}
    (N : News h₀ L s.heap news) (hm : (S, PySem.W.listOf ws.toArray 0) ∈ news) (hi : IntsAre ws ns) (h0 : 0 ≤ k) (h1 : k < (ns.length : Int)) (hl : ns.length ≤ 40)
    (h : ∀ x t, x ∈ ns → Q (.int x t) s)
    (hs : subscripted slice false (.ref S) (.int k u) = operate [.ref S, .int k u] (getItem (.ref S) (.int k u))) :
    wpAny (model prog w) A (subscriptTail value slice (.ref S) (.int k u)) Q E s := by
  have hL : s.heap.IsList S ws.toArray := ⟨_, (N _ hm).1, rfl, 0, rfl⟩
  have hlt : k.toNat < ns.length := by omega
  obtain ⟨t, hx⟩ := hi.get k.toNat ns[k.toNat] (by simp [hlt])
  refine kba_turn (value' := PySem.Expr.Name (PySem.Str.ofString "_") ⟨0, 0, 0, 0⟩) (fun _ => rfl) ?_
  exact tail_any hL.typeIs slot_list_getitem.lookup (wpAny_getItem_list hL h0 (by omega) (by simpa using hx) (h _ t (List.getElem_mem hlt))) hs
theorem mod_len {b : Int} {ns : List Int} (h : 1 ≤ ns.length) : 0 ≤ b.fmod (ns.length : Int) ∧ b.fmod (ns.length : Int) < (ns.length : Int) := fmod_range b (by omega)
theorem len_ne {ns : List Int} (h : 1 ≤ ns.length) : (ns.length : Int) ≠ 0 := by omega

theorem wb_mod (x lim : Int) {m : Int} (h0 : 0 < m) (h1 : m ≤ 2 ^ 300) : intBits ((x.fmod m).fdiv lim) ≤ 300 := by
  refine PySem.intBits_fdiv_le ?_
  refine PySem.intBits_le_iff.mpr ?_
  have h2 := fmod_range x h0
  have h3 := cast_pow 300
  generalize (2 : Nat) ^ 300 = q at h3 ⊢
  generalize (2 : Int) ^ 300 = r at h1 h3
  omega
theorem ten66 : (0 : Int) < 10 ^ Int.toNat 66 ∧ (10 : Int) ^ Int.toNat 66 ≤ 2 ^ 300 := by decide +kernel
theorem big62 : (0 : Int) < 4611686018427387847 ∧ (4611686018427387847 : Int) ≤ 2 ^ 300 := by decide +kernel

structure WSt where
  a : Int
  t1 : Tok
  b : Int
  t2 : Tok
  x : Int
  tx : Tok
def ledB (W S : Addr) (news : List (Addr × Obj)) (c : WSt) : List (Addr × Obj) := (W, wob c.a c.t1 c.b c.t2 S) :: news
def psB (c : WSt) : List (Str × Value) := [(Str.ofString "total", .int c.x c.tx)]
def PB (b₀ : Int) (pre : List Int) (c : WSt) : Prop := intBits c.a ≤ 300 ∧ 0 ≤ c.b ∧ c.b ≤ b₀ + (pre.length : Int) ∧ 0 ≤ c.x ∧ c.x + 1 ≤ 4096 ^ pre.length
theorem pb_start {a b : Int} {t1 t2 tx : Tok} (ha : intBits a ≤ 300) (hb : 0 ≤ b) : PB b [] ⟨a, t1, b, t2, 0, tx⟩ := ⟨ha, hb, by simp, Int.le_refl 0, Int.le_refl 1⟩
theorem pb_small {b₀ : Int} {pre : List Int} {c : WSt} (h : PB b₀ pre c) (hl : pre.length < 4) : c.x ≤ 68719476736 := by
  obtain ⟨_, _, _, _, h⟩ := h
  have : pre.length = 0 ∨ pre.length = 1 ∨ pre.length = 2 ∨ pre.length = 3 := by omega
  rcases this with e | e | e | e <;> rw [e] at h <;> omega
theorem pb_done {b₀ : Int} {c : WSt} (h : PB b₀ (rangeKs 0 4) c) : intBits c.a ≤ 300 ∧ 0 ≤ c.b ∧ c.b ≤ b₀ + 4 ∧ 0 ≤ c.x ∧ c.x ≤ 281474976710656 := by
  obtain ⟨h1, h2, h3, h4, h5⟩ := h
  rw [rangeKs_length] at h3 h5
  exact ⟨h1, h2, by omega, h4, by omega⟩
theorem pb_turn {b₀ k r b' a' : Int} {t1 t2 tx : Tok} {pre : List Int} {c : WSt} (h : PB b₀ pre c) (hr0 : 0 ≤ r) (hr1 : r < 4096) (ha : intBits a' ≤ 300) (hb0 : 0 ≤ b') (hb1 : b' ≤ c.b + 1) : PB b₀ (pre ++ [k]) ⟨a', t1, b', t2, c.x * 4096 + r, tx⟩ := by
  obtain ⟨_, _, h3, h4, h5⟩ := h
  refine ⟨ha, hb0, ?_, ?_, ?_⟩
  · simp only [List.length_append, List.length_cons, List.length_nil]; omega
  · show 0 ≤ c.x * 4096 + r
    omega
  · show c.x * 4096 + r + 1 ≤ 4096 ^ (pre ++ [k]).length
    rw [List.length_append, List.length_cons, List.length_nil, Int.pow_succ]
    generalize (4096 : Int) ^ pre.length = q at h5 ⊢
    omega
theorem bits_end {h₀ h' : Heap} {L W S : Addr} {m' m₀ : Str → Option Value} {news own : List (Addr × Obj)} {s₁ : Shared} {tk : Nat} {b₀ a b x : Int} {t1 t2 tx : Tok} {pre : List Int} {c₀ : WSt}
    (F : Fr h₀ L h' m') (N : News h₀ L h' ((W, wob a t1 b t2 S) :: (news ++ own))) (hk : m' (Str.ofString "total") = some (.int x tx)) (hr : ∀ z, z ≠ Str.ofString "lap" → z ≠ Str.ofString "total" → m' z = m₀ z) (hp : PB b₀ pre ⟨a, t1, b, t2, x, tx⟩) :
    InvEndN h₀ L (KstS (ledB W S news) psB (fun _ => True) (Str.ofString "lap") [] m₀ (PB b₀) pre) own ((ledB W S news c₀).map (·.1)) s₁ { s₁ with heap := h', toks := tk } :=
  kst_end ⟨a, t1, b, t2, x, tx⟩ F N (fun p hp => by
    rcases List.mem_cons.mp hp with rfl | hp
    · exact .head _
    · exact .tail _ (List.mem_append.mpr (.inl hp))) (fun p hp => .tail _ (List.mem_append.mpr (.inr hp))) rfl trivial
    (fun p hp => by rw [List.mem_singleton.mp hp]; exact hk) (fun z h1 h2 _ => hr z h1 (h2 _ (List.mem_singleton.mpr rfl))) hp
theorem WellS.app {news : List (Addr × Obj)} {S : Addr} {ws : List Value} {ns : List Int} (h : WellS news S ws ns) (own : List (Addr × Obj)) : WellS (news ++ own) S ws ns :=
  ⟨List.mem_append.mpr (.inl h.isin), h.are, h.low, h.high, h.cells⟩
theorem WellS.up {news : List (Addr × Obj)} {S : Addr} {ws : List Value} {ns : List Int} (h : WellS news S ws ns) (p : Addr × Obj) : WellS (p :: news) S ws ns :=
  ⟨.tail _ h.isin, h.are, h.low, h.high, h.cells⟩
theorem app_ne {W S : Addr} {news own : List (Addr × Obj)} {c₀ : WSt} (hW : ∀ p ∈ news, p.1 ≠ W) (ho : OwnOff own ((ledB W S news c₀).map (·.1))) : ∀ p ∈ news ++ own, p.1 ≠ W := fun p hp => by
  rcases List.mem_append.mp hp with hp | hp
  · exact hW p hp
  · exact ho p hp W (.head _)

theorem use_ctW {w : World} {mean : ExcName → Option Value} {mg mb : Str → Option Value} {f : Addr} {d : Nat} {W S : Addr} {a : Int} {t1 : Tok} {b : Int} {t2 : Tok} {news : List (Addr × Obj)} {vs : List Value}
  {dp un : Nat} {gd : Option (List Code)} {cn : Str} {cs : Scope} {ad : Addr} {ccd : Value} {cl : List (Str × Addr)} {outer : List Env} {A₀ : Around} {base h₀ : Heap} {L : Addr} {m : Str → Option Value} {s : Shared} {Q E : Value → Shared → Prop}
  {R : Value → Int → Int → Prop} (C : CtW w mean mg mb f d W S a t1 b t2 news vs R) (B : Below A₀ base outer h₀) (F : Fr h₀ L s.heap m) (X : (Mine.hd.heap_39 w.params).In h₀) (N : News h₀ L s.heap ((W, wob a t1 b t2 S) :: news)) (T : Top VW LO mean mg mb h₀) (hk : cs.kind = .function)
    (hd : dp + d < recursionLimit) (hu : un + 8 * d < cLine)
    (ret : ∀ (v : Value) (a' : Int) (t1' : Tok) (b' : Int) (t2' : Tok) (h' : Heap) (tk' : Nat), R v a' b' → Fr h₀ L h' m → News h₀ L h' ((W, wob a' t1' b' t2' S) :: news) → Q v { s with heap := h', toks := tk' }) :
    wpAny (model PySem.Challenge.rw_pb0330_01.row.prog w) (ktrTop dp un gd cn cs L ad ccd cl outer) (call (.ref f) vs) Q E s := C _ _ _ _ _ _ _ _ _ _ _ _ _ _ _ _ _ B F X N T hk hd hu ret


/-- the form that the program makes of e and fr -/
def mkF (e fr : Int) : Fm := ⟨e, fr, 1 * 2 ^ (e - 1).toNat - 1, 1 * 2 ^ e.toNat - 1, 1 * 2 ^ fr.toNat, 1 - (1 * 2 ^ (e - 1).toNat - 1) - fr⟩

def CtF (w : World) (mean : ExcName → Option Value) (mg mb : Str → Option Value) (f : Addr) (d : Nat) (news : List (Addr × Obj)) (vs : List Value) (fm : Fm) : Prop :=
  ∀ (dp un : Nat) (gd : Option (List Code)) (cn : Str) (cs : Scope) (ad : Addr) (ccd : Value) (cl : List (Str × Addr)) (outer : List Env) (A₀ : Around) (base h₀ : Heap) (L : Addr) (m : Str → Option Value) (s : Shared) (Q E : Value → Shared → Prop),
    Below A₀ base outer h₀ → Fr h₀ L s.heap m → (Mine.hd.heap_39 w.params).In h₀ → News h₀ L s.heap news → Top VW LO mean mg mb h₀ → cs.kind = .function → dp + d < recursionLimit → un + 8 * d < cLine →
    (∀ (x dx : Addr) (o1 o2 : Obj) (h' : Heap) (tk' : Nat), FmIn w [(x, o1), (dx, o2)] x fm → (∀ p ∈ news, p.1 ≠ x ∧ p.1 ≠ dx) → Fr h₀ L h' m → News h₀ L h' ((x, o1) :: (dx, o2) :: news) → Q (.ref x) { s with heap := h', toks := tk' }) →
    wpAny (model PySem.Challenge.rw_pb0330_01.row.prog w) (ktrTop dp un gd cn cs L ad ccd cl outer) (call (.ref f) vs) Q E s

theorem below_ne {news : List (Addr × Obj)} {d : Addr} (h : ∀ p ∈ news, p.1 < d) : ∀ p ∈ news, p.1 ≠ d := fun p hp => Nat.ne_of_lt (h p hp)

theorem form_end {w : World} {h₀ h' : Heap} {L x dx : Addr} {m : Str → Option Value} {news : List (Addr × Obj)} {s : Shared} {Q : Value → Shared → Prop} {tk' : Nat} {f : Fm} {k1 k2 k3 k4 k5 k6 t1 t2 t3 t4 t5 t6 : Tok}
    (hret : ∀ (x dx : Addr) (o1 o2 : Obj) (h' : Heap) (tk' : Nat), FmIn w [(x, o1), (dx, o2)] x f → (∀ p ∈ news, p.1 ≠ x ∧ p.1 ≠ dx) → Fr h₀ L h' m → News h₀ L h' ((x, o1) :: (dx, o2) :: news) → Q (.ref x) { s with heap := h', toks := tk' })
    (F : Fr h₀ L h' m) (N : News h₀ L h' ((x, instObj 31 dx) :: (dx, dictOf [⟨PyData.keyHash w.params (Str.ofString "exponent_bits"), .str (Str.ofString "exponent_bits") k1, .int f.eb t1⟩,
   ⟨PyData.keyHash w.params (Str.ofString "fraction_bits"), .str (Str.ofString "fraction_bits") k2, .int f.fb t2⟩,
   ⟨PyData.keyHash w.params (Str.ofString "bias"), .str (Str.ofString "bias") k3, .int f.bias t3⟩,
   ⟨PyData.keyHash w.params (Str.ofString "top"), .str (Str.ofString "top") k4, .int f.top t4⟩,
   ⟨PyData.keyHash w.params (Str.ofString "hidden"), .str (Str.ofString "hidden") k5, .int f.hid t5⟩,
   ⟨PyData.keyHash w.params (Str.ofString "least"), .str (Str.ofString "least") k6, .int f.least t6⟩] 6) :: news)) (l1 : ∀ p ∈ news, p.1 < dx) (l2 : dx < x) : Q (.ref x) { s with heap := h', toks := tk' } :=
  hret x dx _ _ _ _ ⟨dx, k1, k2, k3, k4, k5, k6, t1, t2, t3, t4, t5, t6, .head _, .tail _ (.head _)⟩ (fun p hp => ⟨Nat.ne_of_lt (Nat.lt_trans (l1 p hp) l2), Nat.ne_of_lt (l1 p hp)⟩) F N


/-- the form's numbers, exactly -/
structure FmX (f : Fm) : Prop where
  b : FmB f
  hid : f.hid = 2 ^ f.fb.toNat
  top : f.top = 2 ^ f.eb.toNat - 1
  bias : f.bias = 2 ^ (f.eb - 1).toNat - 1
  least : f.least = 1 - f.bias - f.fb
theorem mkF_X {e fr : Int} (he0 : 2 ≤ e) (he1 : e ≤ 8) (hf0 : 1 ≤ fr) (hf1 : fr ≤ 23) : FmX (mkF e fr) := by
  have h1 : (2 : Int) ^ 1 ≤ 2 ^ (e - 1).toNat := pow_le_pow (by omega)
  have h2 : (2 : Int) ^ (e - 1).toNat ≤ 2 ^ 7 := pow_le_pow (by omega)
  have h3 : (2 : Int) ^ 2 ≤ 2 ^ e.toNat := pow_le_pow (by omega)
  have h4 : (2 : Int) ^ e.toNat ≤ 2 ^ 8 := pow_le_pow (by omega)
  have h5 : (2 : Int) ^ 1 ≤ 2 ^ fr.toNat := pow_le_pow (by omega)
  have h6 : (2 : Int) ^ fr.toNat ≤ 2 ^ 23 := pow_le_pow (by omega)
  refine ⟨⟨he0, he1, hf0, hf1, ?_, ?_, ?_, ?_, ?_, ?_, ?_, ?_⟩, ?_, ?_, ?_, ?_⟩ <;> simp only [mkF] <;> omega


/-- a number's parts -/
structure Parts (f : Fm) (b s E F : Int) : Prop where
  eq : b = s * spanF f + (E * 2 ^ f.fb.toNat + F)
  s0 : 0 ≤ s
  s1 : s ≤ 1
  E0 : 0 ≤ E
  E1 : E ≤ f.top
  F0 : 0 ≤ F
  F1 : F < 2 ^ f.fb.toNat
theorem bitAnd_mask (x : Int) (n : Nat) (hx : 0 ≤ x) : Builtin.bitAnd x (2 ^ n - 1) = x % 2 ^ n := by
  have h1 := pow_pos2 n
  rw [bitAnd_pp hx (by omega)]
  have h2 : ((2 : Int) ^ n - 1).toNat = 2 ^ n - 1 := by
    have := cast_pow n
    omega
  rw [h2, Nat.and_two_pow_sub_one_eq_mod]
  have h3 : (x.toNat : Int) = x := Int.toNat_of_nonneg hx
  rw [Int.natCast_emod, h3, cast_pow]
theorem fdiv_pos {x y : Int} (hy : 0 < y) : x.fdiv y = x / y := Int.fdiv_eq_ediv_of_nonneg _ (Int.le_of_lt hy)
theorem fmod_pos {x y : Int} (hy : 0 < y) : x.fmod y = x % y := Int.fmod_eq_emod_of_nonneg _ (Int.le_of_lt hy)
theorem div_uniq {q r m x : Int} (h0 : 0 ≤ r) (h1 : r < m) (e : x = q * m + r) : x.fdiv m = q ∧ x.fmod m = r := by
  have hm : 0 < m := by omega
  rw [fdiv_pos hm, fmod_pos hm, e]
  refine ⟨?_, ?_⟩
  · rw [Int.add_comm, Int.add_mul_ediv_right _ _ (by omega), Int.ediv_eq_zero_of_lt h0 h1]
    omega
  · rw [Int.add_comm, Int.add_mul_emod_self_right, Int.emod_eq_of_lt h0 h1]
theorem low_rng {f : Fm} (hX : FmX f) {E F : Int} (E0 : 0 ≤ E) (E1 : E ≤ f.top) (F0 : 0 ≤ F) (F1 : F < 2 ^ f.fb.toNat) : 0 ≤ E * 2 ^ f.fb.toNat + F ∧ E * 2 ^ f.fb.toNat + F < spanF f := by
  have h1 := pow_pos2 f.fb.toNat
  have h2 : E * 2 ^ f.fb.toNat ≤ f.top * 2 ^ f.fb.toNat := Int.mul_le_mul_of_nonneg_right E1 (by omega)
  have h3 : 0 ≤ E * 2 ^ f.fb.toNat := Int.mul_nonneg E0 (by omega)
  rw [span_eq hX.b]
  rw [hX.top, Int.sub_mul] at h2
  omega
theorem parts_of {f : Fm} (hX : FmX f) {b s E F : Int} (h : Parts f b s E F) : spS f b = s ∧ spE f b = E ∧ spF f b = F ∧ b.fdiv (spanF f) = s ∧ b.fmod (spanF f) = E * 2 ^ f.fb.toNat + F := by
  obtain ⟨e, s0, s1, E0, E1, F0, F1⟩ := h
  have hs := low_rng hX E0 E1 F0 F1
  have hT := pow_pos2 f.eb.toNat
  have ht := hX.top
  obtain ⟨a1, a2⟩ := div_uniq hs.1 hs.2 e
  have e2 : b = (s * 2 ^ f.eb.toNat + E) * 2 ^ f.fb.toNat + F := by
    rw [e, span_eq hX.b, Int.add_mul, Int.mul_assoc]
    omega
  obtain ⟨b1, b2⟩ := div_uniq F0 F1 e2
  obtain ⟨c1, c2⟩ := div_uniq (q := s) (r := E) (m := 2 ^ f.eb.toNat) (x := s * 2 ^ f.eb.toNat + E) E0 (by omega) rfl
  refine ⟨?_, ?_, ?_, a1, a2⟩
  · unfold spS
    rw [hX.hid, b1, c1]
  · unfold spE
    rw [hX.hid, b1, hX.top, bitAnd_mask _ _ (by have := Int.mul_nonneg s0 (Int.le_of_lt hT); omega), ← fmod_pos hT, c2]
  · unfold spF
    rw [hX.hid, b2]
theorem parts_ex {f : Fm} (hX : FmX f) {b : Int} (h0 : 0 ≤ b) (h1 : b < 2 * spanF f) : ∃ s E F, Parts f b s E F := by
  have hs := span_rng hX.b
  have hP := pow_pos2 f.fb.toNat
  have hT := pow_pos2 f.eb.toNat
  have e1 := Int.mul_ediv_add_emod b (spanF f)
  have r1 := Int.emod_nonneg b (b := spanF f) (by omega)
  have r2 := Int.emod_lt_of_pos b (b := spanF f) (by omega)
  have e2 := Int.mul_ediv_add_emod (b % spanF f) (2 ^ f.fb.toNat)
  have r3 := Int.emod_nonneg (b % spanF f) (b := 2 ^ f.fb.toNat) (by omega)
  have r4 := Int.emod_lt_of_pos (b % spanF f) (b := 2 ^ f.fb.toNat) (by omega)
  have r5 : 0 ≤ b / spanF f := Int.ediv_nonneg h0 (by omega)
  have r6 : b / spanF f < 2 := (Int.ediv_lt_iff_lt_mul (by omega)).mpr h1
  have r7 : 0 ≤ (b % spanF f) / 2 ^ f.fb.toNat := Int.ediv_nonneg r1 (by omega)
  have r8 : (b % spanF f) / 2 ^ f.fb.toNat < 2 ^ f.eb.toNat := (Int.ediv_lt_iff_lt_mul hP).mpr (by rw [span_eq hX.b] at r2; rw [span_eq hX.b]; exact r2)
  have ht := hX.top
  refine ⟨b / spanF f, (b % spanF f) / 2 ^ f.fb.toNat, (b % spanF f) % 2 ^ f.fb.toNat, ?_, r5, by omega, r7, by omega, r3, r4⟩
  rw [Int.mul_comm (b / spanF f), Int.mul_comm ((b % spanF f) / 2 ^ f.fb.toNat)]
  omega
theorem join_parts {f : Fm} (hX : FmX f) (s E F : Int) : joinF f s E F = s * spanF f + (E * 2 ^ f.fb.toNat + F) := by
  unfold joinF
  rw [hX.hid, span_eq hX.b, Int.add_mul, Int.mul_assoc]
  omega
theorem topF_eq {f : Fm} (hX : FmX f) : topF f = f.top * 2 ^ f.fb.toNat := by
  unfold topF
  rw [hX.top]
/-- the kinds, told by the parts -/
theorem top_cmp {f : Fm} {E F : Int} (hX : FmX f) (E1 : E ≤ f.top) (F0 : 0 ≤ F) (F1 : F < 2 ^ f.fb.toNat) :
    (topF f < E * 2 ^ f.fb.toNat + F ↔ E = f.top ∧ F ≠ 0) ∧ (E * 2 ^ f.fb.toNat + F = topF f ↔ E = f.top ∧ F = 0) := by
  rw [topF_eq hX]
  have hP := pow_pos2 f.fb.toNat
  by_cases h : E = f.top
  · subst h
    omega
  · have h2 : (E + 1) * 2 ^ f.fb.toNat ≤ f.top * 2 ^ f.fb.toNat := Int.mul_le_mul_of_nonneg_right (by omega) (by omega)
    rw [Int.add_mul] at h2
    omega
theorem isNaN_iff {f : Fm} (b : Int) : isNaN f b = true ↔ spE f b = f.top ∧ spF f b ≠ 0 := by
  unfold isNaN
  split <;> simp_all
theorem isInf_iff {f : Fm} (b : Int) : isInf f b = true ↔ spE f b = f.top ∧ spF f b = 0 := by
  unfold isInf
  split <;> simp_all
theorem str_beq (a b : Str) : (a == b) = decide (a = b) := by
  by_cases h : a = b
  · subst h; simp
  · rw [decide_eq_false h]
    exact beq_eq_false_iff_ne.mpr h
theorem kind_none {f : Fm} (n : Int) : ((kindF f n == Str.ofString "none") = true) ↔ topF f < n.fmod (spanF f) := by
  unfold kindF
  split
  · exact ⟨fun _ => by assumption, fun _ => by decide⟩
  · split
    · exact ⟨fun h => absurd h (by decide), fun h => absurd h (by assumption)⟩
    · exact ⟨fun h => absurd h (by decide), fun h => absurd h (by assumption)⟩
theorem kind_endless {f : Fm} (n : Int) : ((kindF f n == Str.ofString "endless") = true) ↔ n.fmod (spanF f) = topF f := by
  unfold kindF
  split
  · exact ⟨fun h => absurd h (by decide), fun h => by omega⟩
  · split
    · exact ⟨fun _ => by assumption, fun _ => by decide⟩
    · exact ⟨fun h => absurd h (by decide), fun h => absurd h (by assumption)⟩
theorem kind_finite {f : Fm} (n : Int) : ((kindF f n == Str.ofString "finite") = true) ↔ n.fmod (spanF f) < topF f := by
  unfold kindF
  split
  · exact ⟨fun h => absurd h (by decide), fun h => by omega⟩
  · split
    · exact ⟨fun h => absurd h (by decide), fun h => by omega⟩
    · exact ⟨fun _ => by omega, fun _ => by decide⟩
theorem nan_kind {f : Fm} (hX : FmX f) {b s E F : Int} (h : Parts f b s E F) : isNaN f b = true ↔ topF f < b.fmod (spanF f) := by
  obtain ⟨h1, h2, h3, h4, h5⟩ := parts_of hX h
  rw [isNaN_iff, h5, (top_cmp hX h.E1 h.F0 h.F1).1, h2, h3]
theorem inf_kind {f : Fm} (hX : FmX f) {b s E F : Int} (h : Parts f b s E F) : isInf f b = true ↔ b.fmod (spanF f) = topF f := by
  obtain ⟨h1, h2, h3, h4, h5⟩ := parts_of hX h
  rw [isInf_iff, h5, (top_cmp hX h.E1 h.F0 h.F1).2, h2, h3]

theorem neg_none {f : Fm} (hX : FmX f) {b : Int} (h0 : 0 ≤ b) (h1 : b < 2 * spanF f) (hk : (kindF f b == Str.ofString "none") = true) : negF f b = nanF f ∧ absF f b = nanF f := by
  obtain ⟨s, E, F, h⟩ := parts_ex hX h0 h1
  have hn := (nan_kind hX h).mpr ((kind_none b).mp hk)
  exact ⟨if_pos hn, if_pos hn⟩
theorem not_true_of {p : Bool} (h : p = false) : ¬ p = true := by rw [h]; decide
theorem neg_some {f : Fm} (hX : FmX f) {b : Int} (h0 : 0 ≤ b) (h1 : b < 2 * spanF f) (hk : (kindF f b == Str.ofString "none") = false) : negF f b = (b + spanF f).fmod (2 * spanF f) ∧ absF f b = b.fmod (spanF f) := by
  obtain ⟨s, E, F, h⟩ := parts_ex hX h0 h1
  have hn : ¬ isNaN f b = true := fun q => not_true_of hk ((kind_none b).mpr ((nan_kind hX h).mp q))
  have hs := low_rng hX h.E0 h.E1 h.F0 h.F1
  obtain ⟨p1, p2, p3, p4, p5⟩ := parts_of hX h
  have e := h.eq
  have s01 : s = 0 ∨ s = 1 := by have := h.s0; have := h.s1; omega
  refine ⟨(if_neg hn).trans ?_, (if_neg hn).trans ?_⟩
  · rw [p1, p2, p3, join_parts hX]
    generalize E * 2 ^ f.fb.toNat + F = p at *
    rcases s01 with q | q
    · subst q
      rw [(div_uniq (q := 0) (r := p + spanF f) (by omega) (by omega) (by omega)).2]
      omega
    · subst q
      rw [(div_uniq (q := 1) (r := p) (by omega) (by omega) (by omega)).2]
      omega
  · rw [p2, p3, join_parts hX, p5]
    omega
theorem nan_eq {f : Fm} (hX : FmX f) : ∃ F, nanF f = f.top * 2 ^ f.fb.toNat + F ∧ 0 ≤ F ∧ F < 2 ^ f.fb.toNat := by
  have hP := pow_pos2 f.fb.toNat
  refine ⟨f.hid.fdiv 2, ?_, ?_, ?_⟩
  · unfold nanF
    rw [join_parts hX]
    omega
  · rw [fdiv2, hX.hid]; omega
  · rw [fdiv2, hX.hid]; omega
theorem top_nonneg {f : Fm} (hX : FmX f) : 0 ≤ f.top := by
  have := hX.b.t0
  omega
theorem nan_rng {f : Fm} (hX : FmX f) : 0 ≤ nanF f ∧ nanF f < 2 * spanF f := by
  obtain ⟨F, e, h0, h1⟩ := nan_eq hX
  have hs := low_rng hX (top_nonneg hX) (Int.le_refl _) h0 h1
  have := span_rng hX.b
  omega
theorem join_rng {f : Fm} (hX : FmX f) {s E F : Int} (s0 : 0 ≤ s) (s1 : s ≤ 1) (E0 : 0 ≤ E) (E1 : E ≤ f.top) (F0 : 0 ≤ F) (F1 : F < 2 ^ f.fb.toNat) : 0 ≤ joinF f s E F ∧ joinF f s E F < 2 * spanF f := by
  have hs := low_rng hX E0 E1 F0 F1
  have := span_rng hX.b
  rw [join_parts hX]
  have s01 : s = 0 ∨ s = 1 := by omega
  rcases s01 with q | q <;> subst q <;> omega
theorem neg_rng {f : Fm} (hX : FmX f) {b : Int} (h0 : 0 ≤ b) (h1 : b < 2 * spanF f) : 0 ≤ negF f b ∧ negF f b < 2 * spanF f := by
  obtain ⟨s, E, F, h⟩ := parts_ex hX h0 h1
  obtain ⟨p1, p2, p3, p4, p5⟩ := parts_of hX h
  unfold negF
  split
  · exact nan_rng hX
  · rw [p1, p2, p3]
    exact join_rng hX (by have := h.s1; omega) (by have := h.s0; omega) h.E0 h.E1 h.F0 h.F1
theorem nz_ok {f : Fm} (hX : FmX f) {b : Int} (h0 : 0 ≤ b) (h1 : b < 2 * spanF f) (hz : isZ f b ≠ true) : 0 < unM f b := by
  obtain ⟨s, E, F, h⟩ := parts_ex hX h0 h1
  obtain ⟨p1, p2, p3, p4, p5⟩ := parts_of hX h
  have hP := pow_pos2 f.fb.toNat
  unfold unM
  rw [p2, p3]
  split
  · rename_i q
    refine Decidable.byContradiction fun q3 => hz ?_
    have q2 : F = 0 := by
      have := h.F0
      omega
    unfold isZ
    rw [hX.hid, Int.mul_comm, ← span_eq hX.b, p5, q, q2]
    simp
  · rw [hX.hid]
    have := h.F0
    omega


theorem pP2 {f : Fm} (hX : FmX f) : ∃ q : Int, (2 : Int) ^ f.fb.toNat = 2 * q ∧ 1 ≤ q := by
  have h := hX.b.f0
  refine ⟨2 ^ (f.fb.toNat - 1), ?_, by have := pow_pos2 (f.fb.toNat - 1); omega⟩
  have e : f.fb.toNat = (f.fb.toNat - 1) + 1 := by omega
  rw [e, Int.pow_succ]
  simp only [Nat.add_sub_cancel]
  omega
theorem size_at {f : Fm} {E F : Int} (E0 : 0 ≤ E) (F0 : 0 ≤ F) (F1 : F < 2 ^ f.fb.toNat) : sizeF f (E * 2 ^ f.fb.toNat + F) = if E = 0 then F else (2 ^ f.fb.toNat + F) * 2 ^ (E - 1).toNat := by
  have hP := pow_pos2 f.fb.toNat
  obtain ⟨a, b⟩ := div_uniq (q := E) (r := F) (m := 2 ^ f.fb.toNat) (x := E * 2 ^ f.fb.toNat + F) F0 F1 rfl
  unfold sizeF
  rw [a, b]
  by_cases h : E = 0
  · subst h
    rw [if_pos (by omega), if_pos rfl]
    omega
  · have h2 : 1 * 2 ^ f.fb.toNat ≤ E * 2 ^ f.fb.toNat := Int.mul_le_mul_of_nonneg_right (by omega) (by omega)
    rw [if_neg (by omega), if_neg h]
theorem size_dk {f : Fm} {d : Nat} {K : Int} (K0 : 0 ≤ K) (K1 : K ≤ 2 * 2 ^ f.fb.toNat) (h : d = 0 ∨ 2 ^ f.fb.toNat ≤ K) : sizeF f (d * 2 ^ f.fb.toNat + K) = K * 2 ^ d := by
  have hP := pow_pos2 f.fb.toNat
  by_cases h1 : K < 2 ^ f.fb.toNat
  · have hd : d = 0 := by omega
    subst hd
    have := size_at (f := f) (E := 0) (F := K) (by omega) K0 h1
    rw [if_pos rfl] at this
    rw [show ((0 : Nat) : Int) * 2 ^ f.fb.toNat + K = 0 * 2 ^ f.fb.toNat + K from rfl, this]
    omega
  · by_cases h2 : K = 2 * 2 ^ f.fb.toNat
    · have := size_at (f := f) (E := (d : Int) + 2) (F := 0) (by omega) (by omega) hP
      rw [if_neg (by omega)] at this
      rw [show (d : Int) * 2 ^ f.fb.toNat + K = ((d : Int) + 2) * 2 ^ f.fb.toNat + 0 by grind, this, show ((d : Int) + 2 - 1).toNat = d + 1 by omega, Int.pow_succ, h2]
      grind
    · have := size_at (f := f) (E := (d : Int) + 1) (F := K - 2 ^ f.fb.toNat) (by omega) (by omega) (by omega)
      rw [if_neg (by omega)] at this
      rw [show (d : Int) * 2 ^ f.fb.toNat + K = ((d : Int) + 1) * 2 ^ f.fb.toNat + (K - 2 ^ f.fb.toNat) by grind, this, show ((d : Int) + 1 - 1).toNat = d by omega]
      grind
theorem size_up {f : Fm} (hX : FmX f) {d : Nat} {K : Int} (K0 : 0 ≤ K) (K1 : K ≤ 2 * 2 ^ f.fb.toNat) (h : d = 0 ∨ 2 ^ f.fb.toNat ≤ K) : (K + 1) * 2 ^ d ≤ sizeF f (d * 2 ^ f.fb.toNat + K + 1) := by
  obtain ⟨q, hq, hq1⟩ := pP2 hX
  have hd := pow_pos2 d
  by_cases h2 : K = 2 * 2 ^ f.fb.toNat
  · have := size_at (f := f) (E := (d : Int) + 2) (F := 1) (by omega) (by omega) (by omega)
    rw [if_neg (by omega)] at this
    rw [show (d : Int) * 2 ^ f.fb.toNat + K + 1 = ((d : Int) + 2) * 2 ^ f.fb.toNat + 1 by grind, this, show ((d : Int) + 2 - 1).toNat = d + 1 by omega, Int.pow_succ, h2]
    have e : (2 ^ f.fb.toNat + 1) * ((2 : Int) ^ d * 2) = (2 * 2 ^ f.fb.toNat + 1) * 2 ^ d + 2 ^ d := by grind
    omega
  · rw [Int.add_assoc, size_dk (by omega) (by omega) (by omega)]
    exact Int.le_refl _
theorem size_down {f : Fm} (hX : FmX f) {d : Nat} {K : Int} (K0 : 0 ≤ K) (K1 : K ≤ 2 * 2 ^ f.fb.toNat) (h : d = 0 ∨ 2 ^ f.fb.toNat ≤ K) (hp : 0 ≤ d * 2 ^ f.fb.toNat + K - 1) :
    sizeF f (d * 2 ^ f.fb.toNat + K - 1) = (K - 1) * 2 ^ d ∨ (K = 2 ^ f.fb.toNat ∧ ∃ d' : Nat, d = d' + 1 ∧ sizeF f (d * 2 ^ f.fb.toNat + K - 1) = (2 * K - 1) * 2 ^ d') := by
  obtain ⟨q, hq, hq1⟩ := pP2 hX
  by_cases h1 : d = 0 ∨ 2 ^ f.fb.toNat ≤ K - 1
  · refine .inl ?_
    have hK : 0 ≤ K - 1 := by
      rcases h1 with h1 | h1
      · subst h1
        simp at hp
        omega
      · omega
    rw [Int.add_sub_assoc, size_dk hK (by omega) h1]
  · have hK : K = 2 ^ f.fb.toNat := by omega
    cases d with
    | zero => omega
    | succ d' =>
      refine .inr ⟨hK, d', rfl, ?_⟩
      have e : ((d' + 1 : Nat) : Int) * 2 ^ f.fb.toNat + K - 1 = (d' : Int) * 2 ^ f.fb.toNat + (2 * K - 1) := by
        rw [hK]
        push_cast
        grind
      rw [e, size_dk (by omega) (by omega) (by omega)]
theorem place_dk {f : Fm} {p : Int} (h : 0 ≤ p) : ∃ (d : Nat) (K : Int), p = d * 2 ^ f.fb.toNat + K ∧ 0 ≤ K ∧ K ≤ 2 * 2 ^ f.fb.toNat ∧ (d = 0 ∨ 2 ^ f.fb.toNat ≤ K) := by
  have hP := pow_pos2 f.fb.toNat
  by_cases h1 : p < 2 ^ f.fb.toNat
  · exact ⟨0, p, by simp, h, by omega, .inl rfl⟩
  · have e := Int.mul_ediv_add_emod p (2 ^ f.fb.toNat)
    have r1 := Int.emod_nonneg p (b := 2 ^ f.fb.toNat) (by omega)
    have r2 := Int.emod_lt_of_pos p (b := 2 ^ f.fb.toNat) hP
    have r3 : 1 ≤ p / 2 ^ f.fb.toNat := (Int.le_ediv_iff_mul_le hP).mpr (by omega)
    refine ⟨(p / 2 ^ f.fb.toNat - 1).toNat, p % 2 ^ f.fb.toNat + 2 ^ f.fb.toNat, ?_, by omega, by omega, .inr (by omega)⟩
    have e2 : (((p / 2 ^ f.fb.toNat - 1).toNat : Nat) : Int) = p / 2 ^ f.fb.toNat - 1 := by omega
    rw [e2]
    grind
theorem size_step {f : Fm} (hX : FmX f) {p : Int} (h : 0 ≤ p) : sizeF f p < sizeF f (p + 1) := by
  obtain ⟨d, K, e, K0, K1, hd⟩ := place_dk (f := f) h
  have h1 := size_up hX K0 K1 hd
  have h2 := pow_pos2 d
  rw [e, size_dk K0 K1 hd]
  rw [Int.add_mul] at h1
  omega
theorem size_mono {f : Fm} (hX : FmX f) {p : Int} (h : 0 ≤ p) (n : Nat) : sizeF f p ≤ sizeF f (p + n) := by
  induction n with
  | zero => simp
  | succ n ih =>
    have := size_step hX (p := p + n) (by omega)
    have e : p + ((n + 1 : Nat) : Int) = p + n + 1 := by omega
    rw [e]
    omega

def fitsP (f : Fm) (p N U : Int) : Bool := okF f p (p - 1) N U (okF f p (p + 1) N U true)
theorem ok_of {f : Fm} {p b N U : Int} {k : Bool} (hk : k = true) (h : 0 ≤ b → b ≤ topF f → gapF f p N U ≤ gapF f b N U ∧ (gapF f b N U = gapF f p N U → p.fmod 2 ≠ 1)) : okF f p b N U k = true := by
  unfold okF
  split
  · exact hk
  · split
    · exact hk
    · have h := h (by omega) (by omega)
      split
      · omega
      · split
        · split
          · exact absurd (by assumption) (h.2 (by assumption))
          · exact hk
        · exact hk
theorem even_place {f : Fm} (hX : FmX f) {d K : Int} (hK : K % 2 = 0) : (d * 2 ^ f.fb.toNat + K).fmod 2 ≠ 1 := by
  obtain ⟨q, hq, _⟩ := pP2 hX
  rw [fmod_pos (by decide), hq, show d * (2 * q) + K = 2 * (d * q) + K by grind]
  omega

theorem round_ok {f : Fm} (hX : FmX f) {d : Nat} {K N U : Int} (K0 : 0 ≤ K) (K1 : K ≤ 2 * 2 ^ f.fb.toNat) (U0 : 0 < U) (hd : d = 0 ∨ (2 ^ f.fb.toNat ≤ K ∧ 2 ^ f.fb.toNat * 2 ^ d * U ≤ N))
    (hr1 : 2 * (K * 2 ^ d * U - N) ≤ 2 ^ d * U) (hr2 : 2 * (N - K * 2 ^ d * U) ≤ 2 ^ d * U) (ht : 2 * (K * 2 ^ d * U - N) = 2 ^ d * U ∨ 2 * (N - K * 2 ^ d * U) = 2 ^ d * U → K % 2 = 0) :
    fitsP f (if d * 2 ^ f.fb.toNat + K ≤ topF f then d * 2 ^ f.fb.toNat + K else topF f) N U = true := by
  have hP := pow_pos2 f.fb.toNat
  have hH : 0 < 2 ^ d * U := Int.mul_pos (pow_pos2 d) U0
  have hd' : d = 0 ∨ 2 ^ f.fb.toNat ≤ K := hd.imp id And.left
  have hdP : 0 ≤ (d : Int) * 2 ^ f.fb.toNat := Int.mul_nonneg (by omega) (by omega)
  -- the lower neighbour
  have low : 0 ≤ (d : Int) * 2 ^ f.fb.toNat + K - 1 → (sizeF f (d * 2 ^ f.fb.toNat + K - 1) * U = K * 2 ^ d * U - 2 ^ d * U) ∨ (K * 2 ^ d * U ≤ N ∧ ∃ H', 0 < H' ∧ sizeF f (d * 2 ^ f.fb.toNat + K - 1) * U = K * 2 ^ d * U - H') := by
    intro h0
    rcases size_down hX K0 K1 hd' h0 with e | ⟨e1, d', e2, e3⟩
    · refine .inl ?_
      rw [e, Int.sub_mul, Int.sub_mul, Int.one_mul]
    · refine .inr ⟨?_, 2 ^ d' * U, Int.mul_pos (pow_pos2 d') U0, ?_⟩
      · rcases hd with hd | hd
        · omega
        · rw [e1]
          exact hd.2
      · rw [e3, e2, Int.pow_succ]
        grind
  by_cases ht1 : (d : Int) * 2 ^ f.fb.toNat + K ≤ topF f
  · rw [if_pos ht1]
    have hs := size_dk (f := f) K0 K1 hd'
    refine ok_of (ok_of rfl fun b0 b1 => ?_) fun b0 b1 => ?_
    · have hu := size_up hX K0 K1 hd'
      have hu2 := Int.mul_le_mul_of_nonneg_right hu (Int.le_of_lt U0)
      rw [Int.add_mul, Int.add_mul, Int.one_mul] at hu2
      unfold gapF absI
      rw [hs]
      generalize sizeF f (↑d * 2 ^ f.fb.toNat + K + 1) * U = Y at hu2 ⊢
      generalize K * 2 ^ d * U = X at *
      generalize 2 ^ d * U = H at *
      refine ⟨by split <;> split <;> omega, fun hg => even_place hX (ht ?_)⟩
      revert hg
      split <;> split <;> omega
    · have hl := low b0
      unfold gapF absI
      rw [hs]
      generalize sizeF f (↑d * 2 ^ f.fb.toNat + K - 1) * U = Y at hl ⊢
      generalize K * 2 ^ d * U = X at *
      generalize 2 ^ d * U = H at *
      rcases hl with hl | ⟨hl1, H', hl2, hl3⟩
      · refine ⟨by split <;> split <;> omega, fun hg => even_place hX (ht ?_)⟩
        revert hg
        split <;> split <;> omega
      · refine ⟨by split <;> split <;> omega, fun hg => ?_⟩
        exfalso
        revert hg
        split <;> split <;> omega
  · rw [if_neg ht1]
    have ht0 := (top_rng hX.b).1
    have hm := size_mono hX (p := topF f) ht0 (d * 2 ^ f.fb.toNat + K - 1 - topF f).toNat
    rw [show topF f + (((d : Int) * 2 ^ f.fb.toNat + K - 1 - topF f).toNat : Int) = d * 2 ^ f.fb.toNat + K - 1 by omega] at hm
    have hm2 := Int.mul_le_mul_of_nonneg_right hm (Int.le_of_lt U0)
    have hl := low (by omega)
    refine ok_of (ok_of rfl fun b0 b1 => by omega) fun b0 b1 => ?_
    have hst := size_step hX (p := topF f - 1) b0
    rw [show topF f - 1 + 1 = topF f by omega] at hst
    have hst2 := Int.mul_lt_mul_of_pos_right hst U0
    unfold gapF absI
    generalize sizeF f (↑d * 2 ^ f.fb.toNat + K - 1) * U = Y at *
    generalize K * 2 ^ d * U = X at *
    generalize 2 ^ d * U = H at *
    generalize sizeF f (topF f) * U = Z at *
    generalize sizeF f (topF f - 1) * U = Z' at *
    rcases hl with hl | ⟨hl1, H', hl2, hl3⟩
    · refine ⟨by split <;> split <;> omega, fun hg => ?_⟩
      exfalso
      revert hg
      split <;> split <;> omega
    · refine ⟨by split <;> split <;> omega, fun hg => ?_⟩
      exfalso
      revert hg
      split <;> split <;> omega


/-- K is the nearest of the multiples of G to A / B -/
structure Near (K G A B : Int) : Prop where
  hi : 2 * (K * G * B - A) ≤ G * B
  lo : 2 * (A - K * G * B) ≤ G * B
  tie : 2 * (K * G * B - A) = G * B ∨ 2 * (A - K * G * B) = G * B → K % 2 = 0
theorem rs_near {m sh A B : Int} {rest : Bool} (hsh : 0 < sh) (B0 : 0 < B) (hA0 : m * B ≤ A) (hA1 : A < (m + 1) * B) (hrest : rest = true ↔ A ≠ m * B) : Near (rsF m sh rest) (2 ^ sh.toNat) A B := by
  have hG := pow_pos2 sh.toNat
  have hh := pow_pos2 (sh - 1).toNat
  have e2 : (2 : Int) ^ sh.toNat = 2 * 2 ^ (sh - 1).toNat := by
    rw [show sh.toNat = (sh - 1).toNat + 1 by omega, Int.pow_succ]
    omega
  have k1 := Int.mul_ediv_add_emod m (2 ^ sh.toNat)
  have k2 := Int.emod_nonneg m (b := 2 ^ sh.toNat) (by omega)
  have k3 := Int.emod_lt_of_pos m (b := 2 ^ sh.toNat) hG
  rw [Int.mul_comm] at k1
  unfold rsF
  rw [if_neg (by omega), fdiv_pos hG]
  generalize m / 2 ^ sh.toNat = q at *
  generalize m % 2 ^ sh.toNat = low at *
  generalize (2 : Int) ^ (sh - 1).toNat = h at *
  rw [e2] at k1 k3 hG ⊢
  have e3 : q * (2 * h) * B = 2 * (q * h * B) := by grind
  have e4 : (q + 1) * (2 * h) * B = 2 * (q * h * B) + 2 * (h * B) := by grind
  have e5 : (2 * h) * B = 2 * (h * B) := by grind
  have e6 : m * B = 2 * (q * h * B) + low * B := by rw [← k1]; grind
  have hhB : 0 < h * B := Int.mul_pos hh B0
  rw [Int.add_mul, Int.one_mul] at hA1
  have hBle : ∀ z : Int, z + 1 ≤ h → z * B + B ≤ h * B := fun z hz => by
    have := Int.mul_le_mul_of_nonneg_right hz (Int.le_of_lt B0)
    rw [Int.add_mul, Int.one_mul] at this
    exact this
  have hlow : low = m - q * (2 * h) := by omega
  split
  · -- above the half
    rename_i c
    have h1 := hBle (2 * h - low) (by omega)
    rw [Int.sub_mul, e5] at h1
    have h2 : low * B + B ≤ (2 * h) * B := by
      have := Int.mul_le_mul_of_nonneg_right (show low + 1 ≤ 2 * h by omega) (Int.le_of_lt B0)
      rw [Int.add_mul, Int.one_mul] at this
      exact this
    exact ⟨by rw [e4, e5]; omega, by rw [e4, e5]; omega, fun ht => by rw [e4, e5] at ht; omega⟩
  · split
    · rename_i c1 c2
      have c3 : low = h := by omega
      rw [c3] at e6
      have hB2 : B ≤ h * B := by
        have := hBle 0 (by omega)
        omega
      split
      · rename_i c4
        have c5 := hrest.mp c4
        exact ⟨by rw [e4, e5]; omega, by rw [e4, e5]; omega, fun ht => by rw [e4, e5] at ht; omega⟩
      · rename_i c4
        have c5 : A = m * B := Decidable.byContradiction fun c => c4 (hrest.mpr c)
        split
        · rename_i c6
          rw [fmod_pos (by decide)] at c6
          exact ⟨by rw [e4, e5]; omega, by rw [e4, e5]; omega, fun _ => by omega⟩
        · rename_i c6
          rw [fmod_pos (by decide)] at c6
          exact ⟨by rw [e3, e5]; omega, by rw [e3, e5]; omega, fun _ => by omega⟩
    · rename_i c1 c2
      have h1 := hBle low (by omega)
      have h2 : 0 ≤ low * B := Int.mul_nonneg k2 (Int.le_of_lt B0)
      exact ⟨by rw [e3, e5]; omega, by rw [e3, e5]; omega, fun ht => by rw [e3, e5] at ht; omega⟩
theorem near_scale {K G A B G' N U c1 c2 : Int} (h : Near K G A B) (p1 : 0 < c1) (p2 : 0 < c2) (e1 : G' * U * c1 = G * B * c2) (e2 : N * c1 = A * c2) : Near K G' N U := by
  obtain ⟨hi, lo, tie⟩ := h
  have f1 : K * G' * U * c1 = K * G * B * c2 := by
    have : K * G' * U * c1 = K * (G' * U * c1) := by grind
    rw [this, e1]
    grind
  have g1 : 2 * (K * G' * U - N) * c1 = 2 * (K * G * B - A) * c2 := by
    have : 2 * (K * G' * U - N) * c1 = 2 * (K * G' * U * c1 - N * c1) := by grind
    rw [this, f1, e2]
    grind
  have g2 : 2 * (N - K * G' * U) * c1 = 2 * (A - K * G * B) * c2 := by
    have : 2 * (N - K * G' * U) * c1 = 2 * (N * c1 - K * G' * U * c1) := by grind
    rw [this, f1, e2]
    grind
  refine ⟨Int.le_of_mul_le_mul_right ?_ p1, Int.le_of_mul_le_mul_right ?_ p1, fun ht => tie ?_⟩
  · rw [g1, e1]
    exact Int.mul_le_mul_of_nonneg_right hi (Int.le_of_lt p2)
  · rw [g2, e1]
    exact Int.mul_le_mul_of_nonneg_right lo (Int.le_of_lt p2)
  · rcases ht with ht | ht
    · left
      have : 2 * (K * G' * U - N) * c1 = G' * U * c1 := by rw [ht]
      rw [g1, e1] at this
      exact Int.eq_of_mul_eq_mul_right (by omega) this
    · right
      have : 2 * (N - K * G' * U) * c1 = G' * U * c1 := by rw [ht]
      rw [g2, e1] at this
      exact Int.eq_of_mul_eq_mul_right (by omega) this
theorem near_exact {K G N U : Int} (h : K * G * U = N) (hp : 0 < G * U) : Near K G N U := ⟨by omega, by omega, fun ht => by omega⟩

/-- the tail of pack -/
theorem tail_ok {f : Fm} (hX : FmX f) {s K : Int} {d : Nat} (_K0 : 0 ≤ K) (K1 : K ≤ 2 * 2 ^ f.fb.toNat) (hd : d = 0 ∨ 2 ^ f.fb.toNat ≤ K) :
    (if K = f.hid * 2 ^ Int.toNat 1 then packTail f s (f.least + d + 1) f.hid else packTail f s (f.least + d) K) = s * spanF f + (if d * 2 ^ f.fb.toNat + K ≤ topF f then d * 2 ^ f.fb.toNat + K else topF f) := by
  have hP := pow_pos2 f.fb.toNat
  have ht3 := hX.b.t0
  have hmul : ∀ z w : Int, z ≤ w → z * 2 ^ f.fb.toNat ≤ w * 2 ^ f.fb.toNat := fun z w h => Int.mul_le_mul_of_nonneg_right h (Int.le_of_lt hP)
  rw [topF_eq hX, show f.hid * 2 ^ Int.toNat 1 = 2 * 2 ^ f.fb.toNat by rw [hX.hid]; show 2 ^ f.fb.toNat * 2 ^ 1 = 2 * 2 ^ f.fb.toNat; omega]
  unfold packTail infF
  simp only [join_parts hX, hX.hid]
  generalize (2 : Int) ^ f.fb.toNat = P at *
  generalize f.top = t at *
  split
  · rename_i c
    rw [if_neg (by omega)]
    have e : (d : Int) * P + K = (d + 2) * P := by rw [c]; grind
    rw [e]
    split
    · have := hmul t (d + 2) (by omega)
      split <;> omega
    · have := hmul (d + 2) t (by omega)
      rw [if_pos this]
      rw [show f.least + (d : Int) + 1 - f.least + 1 = d + 2 by omega]
      omega
  · split
    · rename_i c1 c2
      have hd0 : d = 0 := by omega
      subst hd0
      have := hmul 1 t (by omega)
      rw [if_pos (by omega)]
      omega
    · split
      · have := hmul t (d + 1) (by omega)
        rw [Int.add_mul] at this
        split <;> omega
      · have := hmul (d + 2) t (by omega)
        rw [Int.add_mul] at this
        rw [if_pos (by omega)]
        rw [show f.least + (d : Int) - f.least + 1 = d + 1 by omega, Int.add_mul]
        omega

theorem pow_add' (a b : Nat) : (2 : Int) ^ (a + b) = 2 ^ a * 2 ^ b := Int.pow_add ..
/-- pack rounds the number (A / B) · 2 ^ e to the nearest place -/
theorem pack_ok {f : Fm} (hX : FmX f) {s m e : Int} {rest : Bool} {N U A B : Int} {x y : Nat} (m1 : 0 < m) (B0 : 0 < B) (U0 : 0 < U) (hA0 : m * B ≤ A) (hA1 : A < (m + 1) * B) (hrest : rest = true ↔ A ≠ m * B)
    (hxy : (y : Int) - x = e - f.least) (hN : N * (B * 2 ^ x) = A * (U * 2 ^ y)) (hsh : rest = true → 0 < placeF f m e - e) :
    ∃ p, packF f s m e rest = s * spanF f + p ∧ 0 ≤ p ∧ p ≤ topF f ∧ fitsP f p N U = true := by
  have hP := pow_pos2 f.fb.toNat
  have ht0 := (top_rng hX.b).1
  have hfb := hX.b.f0
  obtain ⟨k, k1, k2, k3⟩ := blen_spec m1
  have hpl : placeF f m e = f.least ∨ (placeF f m e = e + k - f.fb ∧ f.least ≤ placeF f m e) := by
    unfold placeF
    rw [k3]
    split <;> omega
  have hge : f.least ≤ placeF f m e ∧ e + k - f.fb ≤ placeF f m e := by
    unfold placeF
    rw [k3]
    split <;> omega
  obtain ⟨d, hd⟩ : ∃ d : Nat, placeF f m e = f.least + d := ⟨(placeF f m e - f.least).toNat, by omega⟩
  have c1 : 0 < B * 2 ^ x := Int.mul_pos B0 (pow_pos2 x)
  have c2 : 0 < U * 2 ^ y := Int.mul_pos U0 (pow_pos2 y)
  have goal : ∀ K, K = rsF m (placeF f m e - e) rest → 0 ≤ K → K ≤ 2 * 2 ^ f.fb.toNat → (d = 0 ∨ (2 ^ f.fb.toNat ≤ K ∧ 2 ^ f.fb.toNat * 2 ^ d * U ≤ N)) → Near K (2 ^ d) N U →
      ∃ p, packF f s m e rest = s * spanF f + p ∧ 0 ≤ p ∧ p ≤ topF f ∧ fitsP f p N U = true := by
    intro K hK K0 K1 hdK hn
    have hdP : 0 ≤ (d : Int) * 2 ^ f.fb.toNat := Int.mul_nonneg (by omega) (by omega)
    refine ⟨_, ?_, ?_, ?_, round_ok hX K0 K1 U0 hdK hn.hi hn.lo hn.tie⟩
    · rw [← tail_ok hX K0 K1 (hdK.imp id And.left)]
      unfold packF
      rw [if_neg (by omega), ← hK, hd]
    · split <;> omega
    · split <;> omega
  by_cases hs : 0 < placeF f m e - e
  · obtain ⟨n, hn⟩ : ∃ n : Nat, (placeF f m e - e).toNat = n := ⟨_, rfl⟩
    have hnn : (n : Int) = placeF f m e - e := by omega
    have near := rs_near (rest := rest) hs B0 hA0 hA1 hrest
    rw [hn] at near
    have hdx : d + x = n + y := by omega
    have e1 : 2 ^ d * U * (B * 2 ^ x) = 2 ^ n * B * (U * 2 ^ y) := by
      have h1 : (2 : Int) ^ d * 2 ^ x = 2 ^ n * 2 ^ y := by rw [← pow_add', hdx, pow_add']
      have h2 : 2 ^ d * U * (B * 2 ^ x) = (2 ^ d * 2 ^ x) * (U * B) := by grind
      rw [h2, h1]
      grind
    have near2 := near_scale near c1 c2 e1 hN
    have hG := pow_pos2 n
    have q1 := Int.mul_ediv_add_emod m (2 ^ n)
    have q2 := Int.emod_nonneg m (b := 2 ^ n) (by omega)
    have q3 := Int.emod_lt_of_pos m (b := 2 ^ n) hG
    have hor : rsF m (placeF f m e - e) rest = m / 2 ^ n ∨ rsF m (placeF f m e - e) rest = m / 2 ^ n + 1 := by
      have := rsF_or (m := m) rest hs
      rw [hn, fdiv_pos hG] at this
      exact this
    have k0 : 0 ≤ m / 2 ^ n := Int.ediv_nonneg (by omega) (by omega)
    have kup : m / 2 ^ n < 2 * 2 ^ f.fb.toNat := by
      refine (Int.ediv_lt_iff_lt_mul hG).mpr ?_
      have h1 : (2 : Int) ^ (k + 1) ≤ 2 ^ (f.fb.toNat + 1 + n) := pow_le_pow (by omega)
      have h2 : (2 : Int) ^ (f.fb.toNat + 1 + n) = 2 * 2 ^ f.fb.toNat * 2 ^ n := by
        rw [pow_add', Int.pow_succ]
        grind
      omega
    refine goal _ rfl (by omega) (by omega) ?_ near2
    by_cases hd0 : d = 0
    · exact .inl hd0
    · right
      have hk : (f.fb.toNat : Int) + n = k := by omega
      have h3 : (2 : Int) ^ f.fb.toNat * 2 ^ n ≤ m := by
        rw [← pow_add', show f.fb.toNat + n = k by omega]
        exact k1
      have h4 : 2 ^ f.fb.toNat ≤ m / 2 ^ n := (Int.le_ediv_iff_mul_le hG).mpr h3
      refine ⟨by omega, Int.le_of_mul_le_mul_right ?_ c1⟩
      have h5 : 2 ^ f.fb.toNat * 2 ^ d * U * (B * 2 ^ x) = 2 ^ f.fb.toNat * 2 ^ n * B * (U * 2 ^ y) := by
        have : 2 ^ f.fb.toNat * 2 ^ d * U * (B * 2 ^ x) = 2 ^ f.fb.toNat * (2 ^ d * U * (B * 2 ^ x)) := by grind
        rw [this, e1]
        grind
      rw [h5, hN]
      refine Int.mul_le_mul_of_nonneg_right ?_ (Int.le_of_lt c2)
      exact Int.le_trans (Int.mul_le_mul_of_nonneg_right h3 (Int.le_of_lt B0)) hA0
  · have hr : rest = false := by
      cases rest
      · rfl
      · exact absurd (hsh rfl) hs
    have hAe : A = m * B := Decidable.byContradiction fun c => by
      have := hrest.mpr c
      rw [hr] at this
      cases this
    obtain ⟨n, hn⟩ : ∃ n : Nat, (0 - (placeF f m e - e)).toNat = n := ⟨_, rfl⟩
    have hnn : (n : Int) = 0 - (placeF f m e - e) := by omega
    have hK : rsF m (placeF f m e - e) rest = m * 2 ^ n := by
      unfold rsF
      rw [if_pos (by omega), hn]
    have hy : y = d + x + n := by omega
    have hex : m * 2 ^ n * 2 ^ d * U = N := by
      refine Int.eq_of_mul_eq_mul_right (show B * 2 ^ x ≠ 0 by omega) ?_
      rw [hN, hAe, hy, pow_add', pow_add']
      grind
    have kup : m * 2 ^ n ≤ 2 * 2 ^ f.fb.toNat := by
      have h0 := pow_pos2 n
      have h1 : m * 2 ^ n ≤ 2 ^ (k + 1) * 2 ^ n := Int.mul_le_mul_of_nonneg_right (by omega) (by omega)
      have h2 : (2 : Int) ^ (k + 1) * 2 ^ n ≤ 2 ^ (f.fb.toNat + 1) := by
        rw [← pow_add']
        exact pow_le_pow (by omega)
      rw [Int.pow_succ (2 : Int) f.fb.toNat] at h2
      omega
    have hnear : Near (m * 2 ^ n) (2 ^ d) N U := near_exact hex (Int.mul_pos (pow_pos2 d) U0)
    refine goal _ hK.symm (Int.mul_nonneg (by omega) (Int.le_of_lt (pow_pos2 n))) kup ?_ hnear
    by_cases hd0 : d = 0
    · exact .inl hd0
    · right
      have h3 : 2 ^ f.fb.toNat ≤ m * 2 ^ n := by
        have h0 := pow_pos2 n
        have h1 : 2 ^ k * 2 ^ n ≤ m * 2 ^ n := Int.mul_le_mul_of_nonneg_right k1 (by omega)
        rw [← pow_add', show k + n = f.fb.toNat by omega] at h1
        exact h1
      refine ⟨h3, ?_⟩
      rw [← hex]
      exact Int.mul_le_mul_of_nonneg_right (Int.mul_le_mul_of_nonneg_right h3 (Int.le_of_lt (pow_pos2 d))) (Int.le_of_lt U0)


theorem fits_of {f : Fm} (hX : FmX f) {fo s p N U : Int} (e : fo = s * spanF f + p) (p0 : 0 ≤ p) (p1 : p ≤ topF f) (h : fitsP f p N U = true) : fitsF f fo s N U = true := by
  have ht := top_rng hX.b
  obtain ⟨a, b⟩ := div_uniq p0 (by omega) e
  unfold fitsF sideF
  rw [a, b, if_pos rfl, if_neg (by omega)]
  exact h
theorem size_zero {f : Fm} : sizeF f 0 = 0 := by
  have hP := pow_pos2 f.fb.toNat
  unfold sizeF
  rw [if_pos hP]
theorem size_pos {f : Fm} (hX : FmX f) {p : Int} (h : 0 < p) : 0 < sizeF f p := by
  have h1 := size_mono hX (p := 1) (by omega) (p - 1).toNat
  have h2 := size_step hX (p := 0) (by omega)
  rw [size_zero] at h2
  rw [show (1 : Int) + ((p - 1).toNat : Int) = p by omega] at h1
  have : (0 : Int) + 1 = 1 := rfl
  rw [this] at h2
  omega
theorem fitsP_zero {f : Fm} (hX : FmX f) {U : Int} (U0 : 0 < U) : fitsP f 0 0 U = true := by
  refine ok_of (ok_of rfl fun b0 b1 => ?_) fun b0 b1 => by omega
  have h1 := size_pos hX (p := 0 + 1) (by omega)
  have h2 : 0 ≤ sizeF f (0 + 1) * U := Int.mul_nonneg (by omega) (by omega)
  unfold gapF absI
  rw [size_zero]
  refine ⟨by split <;> split <;> omega, fun _ => by decide⟩
theorem small_bits {f : Fm} (hX : FmX f) {x : Int} (h0 : 0 ≤ x) (h1 : x < 2 * spanF f) : intBits x ≤ 100000 := by
  have := span_rng hX.b
  exact Nat.le_trans (PySem.intBits_le_64 (by omega) (by omega)) (by decide)
theorem rng_of {f : Fm} (hX : FmX f) {s p : Int} (s0 : 0 ≤ s) (s1 : s ≤ 1) (p0 : 0 ≤ p) (p1 : p ≤ topF f) : 0 ≤ s * spanF f + p ∧ s * spanF f + p < 2 * spanF f := by
  have ht := top_rng hX.b
  have s01 : s = 0 ∨ s = 1 := by omega
  rcases s01 with q | q <;> subst q <;> omega
theorem zero_eq {f : Fm} (hX : FmX f) (s : Int) : zeroF f s = s * spanF f + 0 := by
  unfold zeroF
  rw [join_parts hX]
  omega
theorem inf_eq {f : Fm} (hX : FmX f) (s : Int) : infF f s = s * spanF f + topF f := by
  unfold infF
  rw [join_parts hX, topF_eq hX]
  omega

/-- the exact size by mantissa and exponent -/
theorem exact_un {f : Fm} (hX : FmX f) {b s E F : Int} (h : Parts f b s E F) : exactF f b = unM f b * 2 ^ (unE f b - f.least).toNat ∧ f.least ≤ unE f b ∧ 0 ≤ unM f b ∧ unM f b ≤ 16777216 := by
  obtain ⟨p1, p2, p3, p4, p5⟩ := parts_of hX h
  have hP := pow_fb hX.b
  have h0 := h.E0
  have h1 := h.F0
  have h2 := h.F1
  unfold exactF
  rw [p5, size_at h.E0 h.F0 h.F1]
  unfold unM unE
  rw [p2, p3, hX.hid]
  by_cases hE : E = 0
  · simp only [if_pos hE]
    refine ⟨?_, by omega, by omega, by omega⟩
    rw [show (f.least - f.least).toNat = 0 by omega]
    omega
  · simp only [if_neg hE]
    refine ⟨?_, by omega, by omega, by omega⟩
    rw [show (f.least + E - 1 - f.least).toNat = (E - 1).toNat by omega]
theorem exact_up {f : Fm} (hX : FmX f) {b s E F lo : Int} (h : Parts f b s E F) (l0 : f.least ≤ lo) (l1 : lo ≤ unE f b) : exactF f b = upF f b lo * 2 ^ (lo - f.least).toNat := by
  rw [(exact_un hX h).1]
  unfold upF
  rw [Int.mul_assoc, ← pow_add', show (unE f b - lo).toNat + (lo - f.least).toNat = (unE f b - f.least).toNat by omega]

theorem sum_tail {f : Fm} (hX : FmX f) {sab t lo : Int} (s0 : 0 ≤ sab) (s1 : sab ≤ 1) (l0 : f.least ≤ lo) : sumTail f (addTail f sab t lo) sab (t * 2 ^ (lo - f.least).toNat) = true ∧ 0 ≤ addTail f sab t lo ∧ addTail f sab t lo < 2 * spanF f := by
  have hn := pow_pos2 (lo - f.least).toNat
  have ht := top_rng hX.b
  have key : ∀ s m : Int, 0 < m → 0 ≤ s → s ≤ 1 → fitsF f (packF f s m lo false) s (m * 2 ^ (lo - f.least).toNat) 1 = true ∧ 0 ≤ packF f s m lo false ∧ packF f s m lo false < 2 * spanF f := by
    intro s m hm hs0 hs1
    obtain ⟨p, e, p0, p1, hp⟩ := pack_ok hX (s := s) (m := m) (e := lo) (rest := false) (N := m * 2 ^ (lo - f.least).toNat) (U := 1) (A := m) (B := 1) (x := 0) (y := (lo - f.least).toNat) hm (by decide) (by decide) (by omega) (by omega)
      ⟨fun h => absurd h (by decide), fun h => absurd (by omega) h⟩ (by omega) (by simp) (fun h => absurd h (by decide))
    have hr := rng_of hX hs0 hs1 p0 p1
    rw [← e] at hr
    exact ⟨fits_of hX e p0 p1 hp, hr⟩
  unfold sumTail addTail
  by_cases h1 : t = 0
  · subst h1
    rw [Int.zero_mul]
    simp only [if_pos]
    have hz : fitsF f (zeroF f sab) sab 0 1 = true := fits_of hX (zero_eq hX sab) (Int.le_refl 0) ht.1 (fitsP_zero hX (by decide))
    have hr := rng_of hX s0 s1 (Int.le_refl 0) ht.1
    rw [← zero_eq hX] at hr
    exact ⟨hz, hr⟩
  · have hne : t * 2 ^ (lo - f.least).toNat ≠ 0 := Int.mul_ne_zero h1 (by omega)
    simp only [if_neg h1, if_neg hne]
    by_cases h2 : t < 0
    · have h3 : t * 2 ^ (lo - f.least).toNat < 0 := Int.mul_neg_of_neg_of_pos h2 hn
      simp only [if_pos h2, if_pos h3]
      have := key 1 (0 - t) (by omega) (by decide) (by decide)
      have e : (0 - t) * 2 ^ (lo - f.least).toNat = absI (t * 2 ^ (lo - f.least).toNat) := by
        unfold absI
        rw [if_pos h3, Int.sub_mul]
        omega
      rw [e] at this
      exact this
    · have h3 : ¬ t * 2 ^ (lo - f.least).toNat < 0 := Int.not_lt.mpr (Int.mul_nonneg (by omega) (by omega))
      simp only [if_neg h2, if_neg h3]
      have := key 0 t (by omega) (by decide) (by decide)
      have e : t * 2 ^ (lo - f.least).toNat = absI (t * 2 ^ (lo - f.least).toNat) := by
        unfold absI
        rw [if_neg h3]
      rw [← e]
      exact this

theorem sum_ok' {f : Fm} (hX : FmX f) {a b : Int} (a0 : 0 ≤ a) (a1 : a < 2 * spanF f) (b0 : 0 ≤ b) (b1 : b < 2 * spanF f) : sumR f a b (addF f a b) = true ∧ 0 ≤ addF f a b ∧ addF f a b < 2 * spanF f := by
  obtain ⟨s, E, F, hA⟩ := parts_ex hX a0 a1
  obtain ⟨s', E', F', hB⟩ := parts_ex hX b0 b1
  have pa := parts_of hX hA
  have pb := parts_of hX hB
  have ka : (kindF f a == Str.ofString "none") = true ↔ isNaN f a = true := (kind_none a).trans (nan_kind hX hA).symm
  have kb : (kindF f b == Str.ofString "none") = true ↔ isNaN f b = true := (kind_none b).trans (nan_kind hX hB).symm
  have ia : (kindF f a == Str.ofString "endless") = true ↔ isInf f a = true := (kind_endless a).trans (inf_kind hX hA).symm
  have ib : (kindF f b == Str.ofString "endless") = true ↔ isInf f b = true := (kind_endless b).trans (inf_kind hX hB).symm
  have sa : sideF f a = s := pa.2.2.2.1
  have sb : sideF f b = s' := pb.2.2.2.1
  have hn := nan_rng hX
  unfold sumR addF
  simp only [ka, kb, ia, ib]
  by_cases h1 : isNaN f a = true
  · simp only [if_pos h1]
    exact ⟨by simp, hn⟩
  · simp only [if_neg h1]
    by_cases h2 : isNaN f b = true
    · simp only [if_pos h2]
      exact ⟨by simp, hn⟩
    · simp only [if_neg h2]
      by_cases h3 : isInf f a = true
      · simp only [if_pos h3]
        by_cases h4 : isInf f b = true
        · simp only [if_pos h4, sa, sb, pa.1, pb.1]
          by_cases h5 : s = s'
          · simp only [if_pos h5]
            exact ⟨by simp, a0, a1⟩
          · simp only [if_neg h5]
            exact ⟨by simp, hn⟩
        · simp only [if_neg h4]
          exact ⟨by simp, a0, a1⟩
      · simp only [if_neg h3]
        by_cases h4 : isInf f b = true
        · simp only [if_pos h4]
          exact ⟨by simp, b0, b1⟩
        · simp only [if_neg h4]
          have ea := exact_un hX hA
          have eb := exact_un hX hB
          have lo0 : f.least ≤ loF f a b := by unfold loF; split <;> omega
          have lo1 : loF f a b ≤ unE f a := by unfold loF; split <;> omega
          have lo2 : loF f a b ≤ unE f b := by unfold loF; split <;> omega
          have ua := exact_up hX hA lo0 lo1
          have ub := exact_up hX hB lo0 lo2
          have s01 : s = 0 ∨ s = 1 := by have := hA.s0; have := hA.s1; omega
          have s01' : s' = 0 ∨ s' = 1 := by have := hB.s0; have := hB.s1; omega
          have hab : Builtin.bitAnd s s' = s * s' ∧ 0 ≤ s * s' ∧ s * s' ≤ 1 := by
            rcases s01 with q | q <;> rcases s01' with q' | q' <;> subst q <;> subst q' <;> decide
          unfold addFin sgU sgx
          simp only [sa, sb, pa.1, pb.1, hab.1]
          rw [ua, ub]
          generalize upF f a (loF f a b) = x at *
          generalize upF f b (loF f a b) = y at *
          have st := fun t => sum_tail hX (sab := s * s') (t := t) hab.2.1 hab.2.2 lo0
          rcases s01 with q | q <;> rcases s01' with q' | q'
          · have := st (x + y)
            rw [Int.add_mul] at this
            subst q; subst q'
            simpa using this
          · have := st (x + (0 - y))
            rw [Int.add_mul, Int.sub_mul, Int.zero_mul] at this
            subst q; subst q'
            simpa using this
          · have := st (0 - x + y)
            rw [Int.add_mul, Int.sub_mul, Int.zero_mul] at this
            subst q; subst q'
            simpa using this
          · have := st (0 - x + (0 - y))
            rw [Int.add_mul, Int.sub_mul, Int.sub_mul, Int.zero_mul] at this
            subst q; subst q'
            simpa using this
theorem sum_ok {f : Fm} (hX : FmX f) {a b : Int} (a0 : 0 ≤ a) (a1 : a < 2 * spanF f) (b0 : 0 ≤ b) (b1 : b < 2 * spanF f) : sumR f a b (addF f a b) = true ∧ intBits (addF f a b) ≤ 100000 := by
  obtain ⟨h1, h2, h3⟩ := sum_ok' hX a0 a1 b0 b1
  exact ⟨h1, small_bits hX h2 h3⟩


theorem z_iff {f : Fm} (hX : FmX f) (b : Int) : isZ f b = true ↔ b.fmod (spanF f) = 0 := by
  unfold isZ
  rw [hX.hid, Int.mul_comm, ← span_eq hX.b]
  simp
theorem exact_zero {f : Fm} (hX : FmX f) (b : Int) : exactF f b = 0 ↔ isZ f b = true := by
  rw [z_iff hX]
  have h := (fm_rng hX.b b).1
  unfold exactF
  refine ⟨fun e => Decidable.byContradiction fun c => ?_, fun e => by rw [e, size_zero]⟩
  have := size_pos hX (p := b.fmod (spanF f)) (by omega)
  omega
theorem sg_eq {s s' : Int} (h : s = 0 ∨ s = 1) (h' : s' = 0 ∨ s' = 1) : Builtin.bitXor s s' = (s + s').fmod 2 ∧ 0 ≤ (s + s').fmod 2 ∧ (s + s').fmod 2 ≤ 1 := by
  rcases h with q | q <;> rcases h' with q' | q' <;> subst q <;> subst q' <;> decide
theorem scale_eq {f : Fm} (hX : FmX f) : ((f.bias - 1 + f.fb).toNat : Int) = 0 - f.least := by
  have := hX.b.b0
  have := hX.b.f0
  have := hX.least
  omega
/-- an infinity met: the product's checker asks what the product gives -/
theorem inf_ok {f : Fm} (hX : FmX f) {a b s E F s' E' F' : Int} (hA : Parts f a s E F) (hB : Parts f b s' E' F') (na : ¬ isNaN f a = true) (nb : ¬ isNaN f b = true) :
    infA f a b (if isZ f a = true then nanF f else if isZ f b = true then nanF f else infF f (sgF f a b)) = true ∧ 0 ≤ (if isZ f a = true then nanF f else if isZ f b = true then nanF f else infF f (sgF f a b)) ∧ (if isZ f a = true then nanF f else if isZ f b = true then nanF f else infF f (sgF f a b)) < 2 * spanF f := by
  have pa := parts_of hX hA
  have pb := parts_of hX hB
  have s01 : s = 0 ∨ s = 1 := by have := hA.s0; have := hA.s1; omega
  have s01' : s' = 0 ∨ s' = 1 := by have := hB.s0; have := hB.s1; omega
  have hs := sg_eq s01 s01'
  have hn := nan_rng hX
  have ht := top_rng hX.b
  have e : sgF f a b = sdF f a b := by
    unfold sgF sdF sideF
    rw [pa.1, pb.1, pa.2.2.2.1, pb.2.2.2.1]
    exact hs.1
  have hsd : 0 ≤ sdF f a b ∧ sdF f a b ≤ 1 := by
    unfold sdF sideF
    rw [pa.2.2.2.1, pb.2.2.2.1]
    exact hs.2
  have hr := rng_of hX hsd.1 hsd.2 ht.1 (Int.le_refl _)
  have t3 : 0 < topF f := by
    rw [topF_eq hX]
    exact Int.mul_pos (by have := hX.b.t0; omega) (pow_pos2 _)
  have fa : (kindF f a == Str.ofString "finite") = true ∨ ¬ isZ f a = true := by
    by_cases c : isZ f a = true
    · exact .inl ((kind_finite a).mpr (by rw [(z_iff hX a).mp c]; exact t3))
    · exact .inr c
  have fb : (kindF f b == Str.ofString "finite") = true ∨ ¬ isZ f b = true := by
    by_cases c : isZ f b = true
    · exact .inl ((kind_finite b).mpr (by rw [(z_iff hX b).mp c]; exact t3))
    · exact .inr c
  unfold infA infB
  simp only [exact_zero hX]
  by_cases c1 : isZ f a = true
  · have c2 := fa.resolve_right (fun h => h c1)
    simp only [if_pos c1, if_pos c2]
    exact ⟨by simp, hn⟩
  · simp only [if_neg c1, ite_self]
    by_cases c2 : isZ f b = true
    · have c3 := fb.resolve_right (fun h => h c2)
      simp only [if_pos c2, if_pos c3]
      exact ⟨by simp, hn⟩
    · simp only [if_neg c2, ite_self]
      rw [inf_eq hX, e]
      exact ⟨by simp, hr⟩
theorem prod_ok' {f : Fm} (hX : FmX f) {a b : Int} (a0 : 0 ≤ a) (a1 : a < 2 * spanF f) (b0 : 0 ≤ b) (b1 : b < 2 * spanF f) : prodR f a b (mulF f a b) = true ∧ 0 ≤ mulF f a b ∧ mulF f a b < 2 * spanF f := by
  obtain ⟨s, E, F, hA⟩ := parts_ex hX a0 a1
  obtain ⟨s', E', F', hB⟩ := parts_ex hX b0 b1
  have pa := parts_of hX hA
  have pb := parts_of hX hB
  have ka : (kindF f a == Str.ofString "none") = true ↔ isNaN f a = true := (kind_none a).trans (nan_kind hX hA).symm
  have kb : (kindF f b == Str.ofString "none") = true ↔ isNaN f b = true := (kind_none b).trans (nan_kind hX hB).symm
  have ia : (kindF f a == Str.ofString "endless") = true ↔ isInf f a = true := (kind_endless a).trans (inf_kind hX hA).symm
  have ib : (kindF f b == Str.ofString "endless") = true ↔ isInf f b = true := (kind_endless b).trans (inf_kind hX hB).symm
  have s01 : s = 0 ∨ s = 1 := by have := hA.s0; have := hA.s1; omega
  have s01' : s' = 0 ∨ s' = 1 := by have := hB.s0; have := hB.s1; omega
  have hs := sg_eq s01 s01'
  have e : sgF f a b = sdF f a b := by
    unfold sgF sdF sideF
    rw [pa.1, pb.1, pa.2.2.2.1, pb.2.2.2.1]
    exact hs.1
  have hsd : 0 ≤ sdF f a b ∧ sdF f a b ≤ 1 := by
    unfold sdF sideF
    rw [pa.2.2.2.1, pb.2.2.2.1]
    exact hs.2
  have hn := nan_rng hX
  have ht := top_rng hX.b
  unfold prodR mulF
  simp only [ka, kb, ia, ib]
  by_cases h1 : isNaN f a = true
  · simp only [if_pos h1]
    exact ⟨by simp, hn⟩
  · simp only [if_neg h1]
    by_cases h2 : isNaN f b = true
    · simp only [if_pos h2]
      exact ⟨by simp, hn⟩
    · simp only [if_neg h2]
      have hi := inf_ok hX hA hB h1 h2
      by_cases h3 : isInf f a = true
      · simp only [if_pos h3]
        exact hi
      · simp only [if_neg h3]
        by_cases h4 : isInf f b = true
        · simp only [if_pos h4]
          exact hi
        · simp only [if_neg h4]
          obtain ⟨xa, ya, za, _⟩ := exact_un hX hA
          obtain ⟨xb, yb, zb, _⟩ := exact_un hX hB
          have hu := scale_eq hX
          rw [xa, xb, e]
          generalize sdF f a b = sd at *
          have U0 := pow_pos2 (f.bias - 1 + f.fb).toNat
          obtain ⟨u, hu'⟩ : ∃ u : Nat, (f.bias - 1 + f.fb).toNat = u := ⟨_, rfl⟩
          obtain ⟨i, hi'⟩ : ∃ i : Nat, (unE f a - f.least).toNat = i := ⟨_, rfl⟩
          obtain ⟨j, hj'⟩ : ∃ j : Nat, (unE f b - f.least).toNat = j := ⟨_, rfl⟩
          rw [hu'] at hu U0 ⊢
          rw [hi', hj']
          by_cases hm : unM f a * unM f b = 0
          · have hz : packF f sd (unM f a * unM f b) (unE f a + unE f b) false = zeroF f sd := by
              unfold packF
              rw [if_pos hm]
            have hN : unM f a * 2 ^ i * (unM f b * 2 ^ j) = 0 := by
              have : unM f a * 2 ^ i * (unM f b * 2 ^ j) = (unM f a * unM f b) * (2 ^ i * 2 ^ j) := by grind
              rw [this, hm, Int.zero_mul]
            rw [hz, hN]
            have hr := rng_of hX hsd.1 hsd.2 (Int.le_refl 0) ht.1
            rw [← zero_eq hX] at hr
            exact ⟨fits_of hX (zero_eq hX sd) (Int.le_refl 0) ht.1 (fitsP_zero hX U0), hr⟩
          · have hm1 : 0 < unM f a * unM f b := by
              have := Int.mul_nonneg za zb
              omega
            obtain ⟨p, ep, p0, p1, hp⟩ := pack_ok hX (s := sd) (m := unM f a * unM f b) (e := unE f a + unE f b) (rest := false) (N := unM f a * 2 ^ i * (unM f b * 2 ^ j)) (U := 2 ^ u) (A := unM f a * unM f b) (B := 1) (x := u) (y := i + j) hm1 (by decide) U0 (by omega) (by omega)
              ⟨fun h => absurd h (by decide), fun h => absurd (by omega) h⟩ (by omega) (by rw [pow_add']; grind) (fun h => absurd h (by decide))
            have hr := rng_of hX hsd.1 hsd.2 p0 p1
            rw [← ep] at hr
            exact ⟨fits_of hX ep p0 p1 hp, hr⟩
theorem prod_ok {f : Fm} (hX : FmX f) {a b : Int} (a0 : 0 ≤ a) (a1 : a < 2 * spanF f) (b0 : 0 ≤ b) (b1 : b < 2 * spanF f) : prodR f a b (mulF f a b) = true ∧ intBits (mulF f a b) ≤ 100000 := by
  obtain ⟨h1, h2, h3⟩ := prod_ok' hX a0 a1 b0 b1
  exact ⟨h1, small_bits hX h2 h3⟩

/-- a ratio, rounded -/
theorem ratio_ok {f : Fm} (hX : FmX f) {s o u e N U : Int} {x y : Nat} (o0 : 0 < o) (u0 : 0 < u) (U0 : 0 < U) (hxy : (y : Int) - x = e - f.least) (hN : N * u * 2 ^ x = o * (U * 2 ^ y)) :
    ∃ p, fromF f s o u e = s * spanF f + p ∧ 0 ≤ p ∧ p ≤ topF f ∧ fitsP f p N U = true := by
  have hfb := hX.b.f0
  obtain ⟨j, j1, j2, j3⟩ := blen_spec o0
  obtain ⟨k, k1, k2, k3⟩ := blen_spec u0
  have hsh : 0 ≤ shF f o u ∧ f.fb + 4 + k - j ≤ shF f o u := by
    unfold shF
    rw [j3, k3]
    split <;> omega
  obtain ⟨n, hn⟩ : ∃ n : Nat, (shF f o u).toNat = n := ⟨_, rfl⟩
  have hq : quF f o u = (o * 2 ^ n) / u := by
    unfold quF
    rw [hn, fdiv_pos u0]
  have q1 := Int.mul_ediv_add_emod (o * 2 ^ n) u
  have q2 := Int.emod_nonneg (o * 2 ^ n) (b := u) (by omega)
  have q3 := Int.emod_lt_of_pos (o * 2 ^ n) (b := u) u0
  rw [← hq, Int.mul_comm] at q1
  have hbig : 2 ^ (f.fb.toNat + 3) ≤ quF f o u := by
    rw [hq]
    refine (Int.le_ediv_iff_mul_le u0).mpr ?_
    have h1 : 2 ^ j * 2 ^ n ≤ o * 2 ^ n := Int.mul_le_mul_of_nonneg_right j1 (Int.le_of_lt (pow_pos2 n))
    have h2 : (2 : Int) ^ (f.fb.toNat + 3 + (k + 1)) ≤ 2 ^ (j + n) := pow_le_pow (by omega)
    rw [pow_add', pow_add' j n] at h2
    have h3 : 2 ^ (f.fb.toNat + 3) * u ≤ 2 ^ (f.fb.toNat + 3) * 2 ^ (k + 1) := Int.mul_le_mul_of_nonneg_left (Int.le_of_lt k2) (Int.le_of_lt (pow_pos2 _))
    omega
  have hm1 : 0 < quF f o u := by
    have := pow_pos2 (f.fb.toNat + 3)
    omega
  obtain ⟨l, l1, l2, l3⟩ := blen_spec hm1
  have hl : f.fb.toNat + 3 ≤ l := by
    refine Nat.le_of_not_lt fun c => ?_
    have : (2 : Int) ^ (l + 1) ≤ 2 ^ (f.fb.toNat + 3) := pow_le_pow (by omega)
    omega
  have hpl : 0 < placeF f (quF f o u) (e - shF f o u) - (e - shF f o u) := by
    unfold placeF
    rw [l3]
    split <;> omega
  unfold fromF
  rw [hn]
  have hc1 := pow_pos2 (n + x)
  refine pack_ok hX (x := n + x) (y := y) (A := o * 2 ^ n) (B := u) hm1 u0 U0 (by omega) (by rw [Int.add_mul, Int.one_mul]; omega) ?_ (by push_cast; omega) ?_ (fun _ => hpl)
  · rw [bne_iff_ne]
    exact ⟨fun h => Ne.symm h, fun h => Ne.symm h⟩
  · rw [pow_add']
    have h1 : N * (u * (2 ^ n * 2 ^ x)) = N * u * 2 ^ x * 2 ^ n := by grind
    rw [h1, hN]
    grind
theorem quo_ok' {f : Fm} (hX : FmX f) {a b : Int} (a0 : 0 ≤ a) (a1 : a < 2 * spanF f) (b0 : 0 ≤ b) (b1 : b < 2 * spanF f) : quoR f a b (divF f a b) = true ∧ 0 ≤ divF f a b ∧ divF f a b < 2 * spanF f := by
  obtain ⟨s, E, F, hA⟩ := parts_ex hX a0 a1
  obtain ⟨s', E', F', hB⟩ := parts_ex hX b0 b1
  have pa := parts_of hX hA
  have pb := parts_of hX hB
  have ka : (kindF f a == Str.ofString "none") = true ↔ isNaN f a = true := (kind_none a).trans (nan_kind hX hA).symm
  have kb : (kindF f b == Str.ofString "none") = true ↔ isNaN f b = true := (kind_none b).trans (nan_kind hX hB).symm
  have ia : (kindF f a == Str.ofString "endless") = true ↔ isInf f a = true := (kind_endless a).trans (inf_kind hX hA).symm
  have ib : (kindF f b == Str.ofString "endless") = true ↔ isInf f b = true := (kind_endless b).trans (inf_kind hX hB).symm
  have s01 : s = 0 ∨ s = 1 := by have := hA.s0; have := hA.s1; omega
  have s01' : s' = 0 ∨ s' = 1 := by have := hB.s0; have := hB.s1; omega
  have hs := sg_eq s01 s01'
  have e : sgF f a b = sdF f a b := by
    unfold sgF sdF sideF
    rw [pa.1, pb.1, pa.2.2.2.1, pb.2.2.2.1]
    exact hs.1
  have hsd : 0 ≤ sdF f a b ∧ sdF f a b ≤ 1 := by
    unfold sdF sideF
    rw [pa.2.2.2.1, pb.2.2.2.1]
    exact hs.2
  have hn := nan_rng hX
  have ht := top_rng hX.b
  have hrz := rng_of hX hsd.1 hsd.2 (Int.le_refl 0) ht.1
  have hri := rng_of hX hsd.1 hsd.2 ht.1 (Int.le_refl _)
  unfold quoR divF
  simp only [ka, kb, ia, ib, exact_zero hX, e]
  by_cases h1 : isNaN f a = true
  · simp only [if_pos h1]
    exact ⟨by simp, hn⟩
  · simp only [if_neg h1]
    by_cases h2 : isNaN f b = true
    · simp only [if_pos h2]
      exact ⟨by simp, hn⟩
    · simp only [if_neg h2]
      by_cases h3 : isInf f a = true
      · simp only [if_pos h3]
        by_cases h4 : isInf f b = true
        · simp only [if_pos h4]
          exact ⟨by simp, hn⟩
        · simp only [if_neg h4]
          rw [inf_eq hX]
          exact ⟨by simp, hri⟩
      · simp only [if_neg h3]
        by_cases h4 : isInf f b = true
        · simp only [if_pos h4]
          rw [zero_eq hX]
          exact ⟨by simp, hrz⟩
        · simp only [if_neg h4]
          by_cases h5 : isZ f b = true
          · simp only [if_pos h5]
            by_cases h6 : isZ f a = true
            · simp only [if_pos h6]
              exact ⟨by simp, hn⟩
            · simp only [if_neg h6]
              rw [inf_eq hX]
              exact ⟨by simp, hri⟩
          · simp only [if_neg h5]
            obtain ⟨xa, ya, za, _⟩ := exact_un hX hA
            obtain ⟨xb, yb, zb, _⟩ := exact_un hX hB
            have hu := scale_eq hX
            have hb0 := nz_ok hX b0 b1 h5
            rw [xa, xb]
            generalize sdF f a b = sd at *
            obtain ⟨u, hu'⟩ : ∃ u : Nat, (f.bias - 1 + f.fb).toNat = u := ⟨_, rfl⟩
            obtain ⟨i, hi'⟩ : ∃ i : Nat, (unE f a - f.least).toNat = i := ⟨_, rfl⟩
            obtain ⟨j, hj'⟩ : ∃ j : Nat, (unE f b - f.least).toNat = j := ⟨_, rfl⟩
            rw [hu'] at hu ⊢
            rw [hi', hj']
            have U0 : 0 < unM f b * 2 ^ j := Int.mul_pos hb0 (pow_pos2 j)
            by_cases hm : unM f a = 0
            · have hz : fromF f sd (unM f a) (unM f b) (unE f a - unE f b) = zeroF f sd := by
                unfold fromF packF
                have : quF f (unM f a) (unM f b) = 0 := by
                  unfold quF
                  rw [hm, Int.zero_mul, fdiv_pos hb0, Int.zero_ediv]
                rw [if_pos this]
              rw [hz, hm, Int.zero_mul, Int.zero_mul, zero_eq hX]
              exact ⟨fits_of hX rfl (Int.le_refl 0) ht.1 (fitsP_zero hX U0), hrz⟩
            · obtain ⟨p, ep, p0, p1, hp⟩ := ratio_ok hX (s := sd) (o := unM f a) (u := unM f b) (e := unE f a - unE f b) (N := unM f a * 2 ^ i * 2 ^ u) (U := unM f b * 2 ^ j) (x := j) (y := i + u) (by omega) hb0 U0 (by push_cast; omega) (by rw [pow_add']; grind)
              have hr := rng_of hX hsd.1 hsd.2 p0 p1
              rw [← ep] at hr
              exact ⟨fits_of hX ep p0 p1 hp, hr⟩
theorem quo_ok {f : Fm} (hX : FmX f) {a b : Int} (a0 : 0 ≤ a) (a1 : a < 2 * spanF f) (b0 : 0 ≤ b) (b1 : b < 2 * spanF f) : quoR f a b (divF f a b) = true ∧ intBits (divF f a b) ≤ 100000 := by
  obtain ⟨h1, h2, h3⟩ := quo_ok' hX a0 a1 b0 b1
  exact ⟨h1, small_bits hX h2 h3⟩

local macro_rules | `(tactic| k_mem) => `(tactic| (refine List.mem_cons_of_mem _ ?_; k_mem))
local macro_rules | `(tactic| bits_by_make) => `(tactic| with_reducible assumption)
local macro_rules | `(tactic| walk_at "binaryOp Mod int int") => `(tactic| k_extra "binaryOp Mod int int")
theorem word1 : True := by
  k_with "binaryOp Mod int int" => (k_here; (with_reducible refine mod_int' ?kbe ?_); (case kbe => (with_reducible apply hidpow_ne); assumption))
  trivial
local macro_rules | `(tactic| bits_by_make) => `(tactic| ((with_reducible refine bits_pow300 ?_); omega))

set_option maxHeartbeats 8000000 in
theorem c_join {w : World} {mean : ExcName → Option Value} {mg mb : Str → Option Value} {news : List (Addr × Obj)} {x : Addr} {f : Fm} {sg ex fr : Int} {u1 u2 u3 : Tok}
  (hx : FmIn w news x f) (hf : FmB f) (h3 : intBits sg ≤ 100000) (h4 : intBits ex ≤ 100000) (h5 : intBits fr ≤ 100000) :
  Ct w mean mg mb 42 1 news [.ref x, .int sg u1, .int ex u2, .int fr u3] (IsI (joinF f sg ex fr)) := by
  unfold Ct
  k_fill
  intro dp un gd cn cs a ccd cl outer A₀ base h₀ L m s Q E B F X N T hk hd hu hret
  have hfm := hx
  have hfb := hf
  obtain ⟨dx, k1, k2, k3, k4, k5, k6, t1, t2, t3, t4, t5, t6, hx, hdx⟩ := hx
  obtain ⟨e0, e1, f0, f1, b0, b1, q0, q1, i0, i1, l0, l1⟩ := hf
  refine wpAny_call ?_
  k_dflt ktr_enter
  k_steps
  all_goals (refine endI hret ?eF ?eN ?eV; (case eF => k_asm); (case eN => (first | k_asm | exact drop1 (by k_asm) | exact drop2 (by k_asm) | exact drop3 (by k_asm))); (case eV => rfl))
local macro_rules | `(tactic| walk_at "call ref") => `(tactic| k_extra "call ref")
theorem word2 : True := by
  k_with "call ref" => (k_here; (with_reducible show wpAny _ _ (call (Value.ref 42) _) _ _ _); k_dflt (refine' use_ct (c_join ?cx ?cf ?c0 ?c1 ?c2) ?gB ?gF ?gX ?gN ?gT ?gk ?gd ?gu ?_; (case gB => k_asm); (case gF => k_asm); (case gX => k_asm); (case gN => k_asm); (case gT => k_asm); (case gk => first | exact rfl | assumption); (case cx => first | assumption | exact FmIn.up1 (by assumption) | exact FmIn.up2 (by assumption) | exact FmIn.up3 (by assumption)); (case cf => assumption); (case c0 => ((with_reducible apply bitsLe); (bits_by_make); decide)); (case c1 => ((with_reducible apply bitsLe); (bits_by_make); decide)); (case c2 => ((with_reducible apply bitsLe); (bits_by_make); decide)); (case gd => ktr_room); (case gu => ktr_units)); intro v9 h9 tk9 hR9 F9 N9; (obtain ⟨t9, e9⟩ := hR9; subst e9); (try dsimp only); (try k_fold))
  trivial

set_option maxHeartbeats 8000000 in
theorem c_split {w : World} {mean : ExcName → Option Value} {mg mb : Str → Option Value} {news : List (Addr × Obj)} {x : Addr} {f : Fm} {b : Int} {u1 : Tok}
  (hx : FmIn w news x f) (hf : FmB f) (h3 : intBits b ≤ 100000) :
  Ct3 w mean mg mb 49 1 news [.ref x, .int b u1] (spS f b) (spE f b) (spF f b) := by
  unfold Ct3
  k_fill
  intro dp un gd cn cs a ccd cl outer A₀ base h₀ L m s Q E B F X N T hk hd hu hret
  have hfm := hx
  have hfb := hf
  obtain ⟨dx, k1, k2, k3, k4, k5, k6, t1, t2, t3, t4, t5, t6, hx, hdx⟩ := hx
  obtain ⟨e0, e1, f0, f1, b0, b1, q0, q1, i0, i1, l0, l1⟩ := hf
  refine wpAny_call ?_
  k_dflt ktr_enter
  k_steps
  all_goals (refine' end3 hret ?eF ?eN ?e1 ?e2 ?e3; (case eF => k_asm); (case eN => first | k_asm | exact keep1 (by k_asm)); (case e1 => rfl); (case e2 => rfl); (case e3 => rfl))
theorem word3 : True := by
  k_with "call ref" => (k_here; (with_reducible show wpAny _ _ (call (Value.ref 49) _) _ _ _); k_dflt (refine' use_ct3 (c_split ?cx ?cf ?c0) ?gB ?gF ?gX ?gN ?gT ?gk ?gd ?gu ?_; (case gB => k_asm); (case gF => k_asm); (case gX => k_asm); (case gN => k_asm); (case gT => k_asm); (case gk => first | exact rfl | assumption); (case cx => first | assumption | exact FmIn.up1 (by assumption) | exact FmIn.up2 (by assumption) | exact FmIn.up3 (by assumption)); (case cf => assumption); (case c0 => ((with_reducible apply bitsLe); (bits_by_make); decide)); (case gd => ktr_room); (case gu => ktr_units)); intro r9 t91 t92 t93 h9 tk9 F9 N9; (try dsimp only); (try k_fold))
  trivial

set_option maxHeartbeats 8000000 in
theorem c_inf {w : World} {mean : ExcName → Option Value} {mg mb : Str → Option Value} {news : List (Addr × Obj)} {x : Addr} {f : Fm} {sg : Int} {u1 : Tok}
  (hx : FmIn w news x f) (hf : FmB f) (h3 : intBits sg ≤ 100000) :
  Ct w mean mg mb 56 2 news [.ref x, .int sg u1] (IsI (infF f sg)) := by
  unfold Ct
  k_fill
  intro dp un gd cn cs a ccd cl outer A₀ base h₀ L m s Q E B F X N T hk hd hu hret
  have hfm := hx
  have hfb := hf
  obtain ⟨dx, k1, k2, k3, k4, k5, k6, t1, t2, t3, t4, t5, t6, hx, hdx⟩ := hx
  obtain ⟨e0, e1, f0, f1, b0, b1, q0, q1, i0, i1, l0, l1⟩ := hf
  refine wpAny_call ?_
  k_dflt ktr_enter
  k_steps
  all_goals (refine endI hret ?eF ?eN ?eV; (case eF => k_asm); (case eN => (first | k_asm | exact drop1 (by k_asm) | exact drop2 (by k_asm) | exact drop3 (by k_asm))); (case eV => rfl))
theorem word4 : True := by
  k_with "call ref" => (k_here; (with_reducible show wpAny _ _ (call (Value.ref 56) _) _ _ _); k_dflt (refine' use_ct (c_inf ?cx ?cf ?c0) ?gB ?gF ?gX ?gN ?gT ?gk ?gd ?gu ?_; (case gB => k_asm); (case gF => k_asm); (case gX => k_asm); (case gN => k_asm); (case gT => k_asm); (case gk => first | exact rfl | assumption); (case cx => first | assumption | exact FmIn.up1 (by assumption) | exact FmIn.up2 (by assumption) | exact FmIn.up3 (by assumption)); (case cf => assumption); (case c0 => ((with_reducible apply bitsLe); (bits_by_make); decide)); (case gd => ktr_room); (case gu => ktr_units)); intro v9 h9 tk9 hR9 F9 N9; (obtain ⟨t9, e9⟩ := hR9; subst e9); (try dsimp only); (try k_fold))
  trivial

set_option maxHeartbeats 8000000 in
theorem c_nan {w : World} {mean : ExcName → Option Value} {mg mb : Str → Option Value} {news : List (Addr × Obj)} {x : Addr} {f : Fm} 
  (hx : FmIn w news x f) (hf : FmB f)  :
  Ct w mean mg mb 63 2 news [.ref x] (IsI (nanF f)) := by
  unfold Ct
  k_fill
  intro dp un gd cn cs a ccd cl outer A₀ base h₀ L m s Q E B F X N T hk hd hu hret
  have hfm := hx
  have hfb := hf
  obtain ⟨dx, k1, k2, k3, k4, k5, k6, t1, t2, t3, t4, t5, t6, hx, hdx⟩ := hx
  obtain ⟨e0, e1, f0, f1, b0, b1, q0, q1, i0, i1, l0, l1⟩ := hf
  refine wpAny_call ?_
  k_dflt ktr_enter
  k_steps
  all_goals (refine endI hret ?eF ?eN ?eV; (case eF => k_asm); (case eN => (first | k_asm | exact drop1 (by k_asm) | exact drop2 (by k_asm) | exact drop3 (by k_asm))); (case eV => rfl))
theorem word5 : True := by
  k_with "call ref" => (k_here; (with_reducible show wpAny _ _ (call (Value.ref 63) _) _ _ _); k_dflt (refine' use_ct (c_nan ?cx ?cf) ?gB ?gF ?gX ?gN ?gT ?gk ?gd ?gu ?_; (case gB => k_asm); (case gF => k_asm); (case gX => k_asm); (case gN => k_asm); (case gT => k_asm); (case gk => first | exact rfl | assumption); (case cx => first | assumption | exact FmIn.up1 (by assumption) | exact FmIn.up2 (by assumption) | exact FmIn.up3 (by assumption)); (case cf => assumption); (case gd => ktr_room); (case gu => ktr_units)); intro v9 h9 tk9 hR9 F9 N9; (obtain ⟨t9, e9⟩ := hR9; subst e9); (try dsimp only); (try k_fold))
  trivial

set_option maxHeartbeats 8000000 in
theorem c_zero {w : World} {mean : ExcName → Option Value} {mg mb : Str → Option Value} {news : List (Addr × Obj)} {x : Addr} {f : Fm} {sg : Int} {u1 : Tok}
  (hx : FmIn w news x f) (hf : FmB f) (h3 : intBits sg ≤ 100000) :
  Ct w mean mg mb 70 2 news [.ref x, .int sg u1] (IsI (zeroF f sg)) := by
  unfold Ct
  k_fill
  intro dp un gd cn cs a ccd cl outer A₀ base h₀ L m s Q E B F X N T hk hd hu hret
  have hfm := hx
  have hfb := hf
  obtain ⟨dx, k1, k2, k3, k4, k5, k6, t1, t2, t3, t4, t5, t6, hx, hdx⟩ := hx
  obtain ⟨e0, e1, f0, f1, b0, b1, q0, q1, i0, i1, l0, l1⟩ := hf
  refine wpAny_call ?_
  k_dflt ktr_enter
  k_steps
  all_goals (refine endI hret ?eF ?eN ?eV; (case eF => k_asm); (case eN => (first | k_asm | exact drop1 (by k_asm) | exact drop2 (by k_asm) | exact drop3 (by k_asm))); (case eV => rfl))
theorem word6 : True := by
  k_with "call ref" => (k_here; (with_reducible show wpAny _ _ (call (Value.ref 70) _) _ _ _); k_dflt (refine' use_ct (c_zero ?cx ?cf ?c0) ?gB ?gF ?gX ?gN ?gT ?gk ?gd ?gu ?_; (case gB => k_asm); (case gF => k_asm); (case gX => k_asm); (case gN => k_asm); (case gT => k_asm); (case gk => first | exact rfl | assumption); (case cx => first | assumption | exact FmIn.up1 (by assumption) | exact FmIn.up2 (by assumption) | exact FmIn.up3 (by assumption)); (case cf => assumption); (case c0 => ((with_reducible apply bitsLe); (bits_by_make); decide)); (case gd => ktr_room); (case gu => ktr_units)); intro v9 h9 tk9 hR9 F9 N9; (obtain ⟨t9, e9⟩ := hR9; subst e9); (try dsimp only); (try k_fold))
  trivial

set_option maxHeartbeats 8000000 in
theorem c_isnan {w : World} {mean : ExcName → Option Value} {mg mb : Str → Option Value} {news : List (Addr × Obj)} {x : Addr} {f : Fm} {b : Int} {u1 : Tok}
  (hx : FmIn w news x f) (hf : FmB f) (h3 : intBits b ≤ 100000) :
  Ct w mean mg mb 77 2 news [.ref x, .int b u1] (IsB (isNaN f b)) := by
  unfold Ct
  k_fill
  intro dp un gd cn cs a ccd cl outer A₀ base h₀ L m s Q E B F X N T hk hd hu hret
  have hfm := hx
  have hfb := hf
  obtain ⟨dx, k1, k2, k3, k4, k5, k6, t1, t2, t3, t4, t5, t6, hx, hdx⟩ := hx
  obtain ⟨e0, e1, f0, f1, b0, b1, q0, q1, i0, i1, l0, l1⟩ := hf
  refine wpAny_call ?_
  k_dflt ktr_enter
  k_steps
  all_goals (refine endB hret ?eF ?eN ?eV; (case eF => k_asm); (case eN => (first | k_asm | exact drop1 (by k_asm) | exact drop2 (by k_asm) | exact drop3 (by k_asm))); (case eV => (refine Eq.symm ?_); (unfold isNaN); (repeat (first | (with_reducible refine (if_pos (by first | with_reducible assumption | omega | exact Bool.eq_false_iff.mp (by with_reducible assumption))).trans ?_) | (with_reducible refine (if_neg (by first | with_reducible assumption | omega | exact Bool.eq_false_iff.mp (by with_reducible assumption))).trans ?_))); rfl))
theorem word7 : True := by
  k_with "call ref" => (k_here; (with_reducible show wpAny _ _ (call (Value.ref 77) _) _ _ _); k_dflt (refine' use_ct (c_isnan ?cx ?cf ?c0) ?gB ?gF ?gX ?gN ?gT ?gk ?gd ?gu ?_; (case gB => k_asm); (case gF => k_asm); (case gX => k_asm); (case gN => k_asm); (case gT => k_asm); (case gk => first | exact rfl | assumption); (case cx => first | assumption | exact FmIn.up1 (by assumption) | exact FmIn.up2 (by assumption) | exact FmIn.up3 (by assumption)); (case cf => assumption); (case c0 => ((with_reducible apply bitsLe); (bits_by_make); decide)); (case gd => ktr_room); (case gu => ktr_units)); intro v9 h9 tk9 hR9 F9 N9; (unfold IsB at hR9; subst hR9); (try dsimp only); (try k_fold))
  trivial

set_option maxHeartbeats 8000000 in
theorem c_isinf {w : World} {mean : ExcName → Option Value} {mg mb : Str → Option Value} {news : List (Addr × Obj)} {x : Addr} {f : Fm} {b : Int} {u1 : Tok}
  (hx : FmIn w news x f) (hf : FmB f) (h3 : intBits b ≤ 100000) :
  Ct w mean mg mb 84 2 news [.ref x, .int b u1] (IsB (isInf f b)) := by
  unfold Ct
  k_fill
  intro dp un gd cn cs a ccd cl outer A₀ base h₀ L m s Q E B F X N T hk hd hu hret
  have hfm := hx
  have hfb := hf
  obtain ⟨dx, k1, k2, k3, k4, k5, k6, t1, t2, t3, t4, t5, t6, hx, hdx⟩ := hx
  obtain ⟨e0, e1, f0, f1, b0, b1, q0, q1, i0, i1, l0, l1⟩ := hf
  refine wpAny_call ?_
  k_dflt ktr_enter
  k_steps
  all_goals (refine endB hret ?eF ?eN ?eV; (case eF => k_asm); (case eN => (first | k_asm | exact drop1 (by k_asm) | exact drop2 (by k_asm) | exact drop3 (by k_asm))); (case eV => (refine Eq.symm ?_); (unfold isInf); (repeat (first | (with_reducible refine (if_pos (by first | with_reducible assumption | omega | exact Bool.eq_false_iff.mp (by with_reducible assumption))).trans ?_) | (with_reducible refine (if_neg (by first | with_reducible assumption | omega | exact Bool.eq_false_iff.mp (by with_reducible assumption))).trans ?_))); rfl))
theorem word8 : True := by
  k_with "call ref" => (k_here; (with_reducible show wpAny _ _ (call (Value.ref 84) _) _ _ _); k_dflt (refine' use_ct (c_isinf ?cx ?cf ?c0) ?gB ?gF ?gX ?gN ?gT ?gk ?gd ?gu ?_; (case gB => k_asm); (case gF => k_asm); (case gX => k_asm); (case gN => k_asm); (case gT => k_asm); (case gk => first | exact rfl | assumption); (case cx => first | assumption | exact FmIn.up1 (by assumption) | exact FmIn.up2 (by assumption) | exact FmIn.up3 (by assumption)); (case cf => assumption); (case c0 => ((with_reducible apply bitsLe); (bits_by_make); decide)); (case gd => ktr_room); (case gu => ktr_units)); intro v9 h9 tk9 hR9 F9 N9; (unfold IsB at hR9; subst hR9); (try dsimp only); (try k_fold))
  trivial

set_option maxHeartbeats 8000000 in
theorem c_iszero {w : World} {mean : ExcName → Option Value} {mg mb : Str → Option Value} {news : List (Addr × Obj)} {x : Addr} {f : Fm} {b : Int} {u1 : Tok}
  (hx : FmIn w news x f) (hf : FmB f) (h3 : intBits b ≤ 100000) :
  Ct w mean mg mb 91 1 news [.ref x, .int b u1] (IsB (isZ f b)) := by
  unfold Ct
  k_fill
  intro dp un gd cn cs a ccd cl outer A₀ base h₀ L m s Q E B F X N T hk hd hu hret
  have hfm := hx
  have hfb := hf
  obtain ⟨dx, k1, k2, k3, k4, k5, k6, t1, t2, t3, t4, t5, t6, hx, hdx⟩ := hx
  obtain ⟨e0, e1, f0, f1, b0, b1, q0, q1, i0, i1, l0, l1⟩ := hf
  refine wpAny_call ?_
  k_dflt ktr_enter
  k_steps
  all_goals (refine endB hret ?eF ?eN ?eV; (case eF => k_asm); (case eN => (first | k_asm | exact drop1 (by k_asm) | exact drop2 (by k_asm) | exact drop3 (by k_asm))); (case eV => rfl))
theorem word9 : True := by
  k_with "call ref" => (k_here; (with_reducible show wpAny _ _ (call (Value.ref 91) _) _ _ _); k_dflt (refine' use_ct (c_iszero ?cx ?cf ?c0) ?gB ?gF ?gX ?gN ?gT ?gk ?gd ?gu ?_; (case gB => k_asm); (case gF => k_asm); (case gX => k_asm); (case gN => k_asm); (case gT => k_asm); (case gk => first | exact rfl | assumption); (case cx => first | assumption | exact FmIn.up1 (by assumption) | exact FmIn.up2 (by assumption) | exact FmIn.up3 (by assumption)); (case cf => assumption); (case c0 => ((with_reducible apply bitsLe); (bits_by_make); decide)); (case gd => ktr_room); (case gu => ktr_units)); intro v9 h9 tk9 hR9 F9 N9; (unfold IsB at hR9; subst hR9); (try dsimp only); (try k_fold))
  trivial

set_option maxHeartbeats 8000000 in
theorem c_signof {w : World} {mean : ExcName → Option Value} {mg mb : Str → Option Value} {news : List (Addr × Obj)} {x : Addr} {f : Fm} {b : Int} {u1 : Tok}
  (hx : FmIn w news x f) (hf : FmB f) (h3 : intBits b ≤ 100000) :
  Ct w mean mg mb 98 2 news [.ref x, .int b u1] (IsI (spS f b)) := by
  unfold Ct
  k_fill
  intro dp un gd cn cs a ccd cl outer A₀ base h₀ L m s Q E B F X N T hk hd hu hret
  have hfm := hx
  have hfb := hf
  obtain ⟨dx, k1, k2, k3, k4, k5, k6, t1, t2, t3, t4, t5, t6, hx, hdx⟩ := hx
  obtain ⟨e0, e1, f0, f1, b0, b1, q0, q1, i0, i1, l0, l1⟩ := hf
  refine wpAny_call ?_
  k_dflt ktr_enter
  k_steps
  all_goals (refine endI hret ?eF ?eN ?eV; (case eF => k_asm); (case eN => (first | k_asm | exact drop1 (by k_asm) | exact drop2 (by k_asm) | exact drop3 (by k_asm))); (case eV => rfl))
theorem word10 : True := by
  k_with "call ref" => (k_here; (with_reducible show wpAny _ _ (call (Value.ref 98) _) _ _ _); k_dflt (refine' use_ct (c_signof ?cx ?cf ?c0) ?gB ?gF ?gX ?gN ?gT ?gk ?gd ?gu ?_; (case gB => k_asm); (case gF => k_asm); (case gX => k_asm); (case gN => k_asm); (case gT => k_asm); (case gk => first | exact rfl | assumption); (case cx => first | assumption | exact FmIn.up1 (by assumption) | exact FmIn.up2 (by assumption) | exact FmIn.up3 (by assumption)); (case cf => assumption); (case c0 => ((with_reducible apply bitsLe); (bits_by_make); decide)); (case gd => ktr_room); (case gu => ktr_units)); intro v9 h9 tk9 hR9 F9 N9; (obtain ⟨t9, e9⟩ := hR9; subst e9); (try dsimp only); (try k_fold))
  trivial

set_option maxHeartbeats 8000000 in
theorem c_unpack {w : World} {mean : ExcName → Option Value} {mg mb : Str → Option Value} {news : List (Addr × Obj)} {x : Addr} {f : Fm} {b : Int} {u1 : Tok}
  (hx : FmIn w news x f) (hf : FmB f) (h3 : intBits b ≤ 100000) :
  Ct3 w mean mg mb 105 2 news [.ref x, .int b u1] (spS f b) (unM f b) (unE f b) := by
  unfold Ct3
  k_fill
  intro dp un gd cn cs a ccd cl outer A₀ base h₀ L m s Q E B F X N T hk hd hu hret
  have hfm := hx
  have hfb := hf
  obtain ⟨dx, k1, k2, k3, k4, k5, k6, t1, t2, t3, t4, t5, t6, hx, hdx⟩ := hx
  obtain ⟨e0, e1, f0, f1, b0, b1, q0, q1, i0, i1, l0, l1⟩ := hf
  refine wpAny_call ?_
  k_dflt ktr_enter
  k_steps
  all_goals (refine' end3 hret ?eF ?eN ?e1 ?e2 ?e3; (case eF => k_asm); (case eN => first | k_asm | exact keep1 (by k_asm)); (case e1 => rfl); (case e2 => (refine Eq.symm ?_); (unfold unM); (repeat (first | (with_reducible refine (if_pos (by first | with_reducible assumption | omega | exact Bool.eq_false_iff.mp (by with_reducible assumption))).trans ?_) | (with_reducible refine (if_neg (by first | with_reducible assumption | omega | exact Bool.eq_false_iff.mp (by with_reducible assumption))).trans ?_))); rfl); (case e3 => (refine Eq.symm ?_); (unfold unE); (repeat (first | (with_reducible refine (if_pos (by first | with_reducible assumption | omega | exact Bool.eq_false_iff.mp (by with_reducible assumption))).trans ?_) | (with_reducible refine (if_neg (by first | with_reducible assumption | omega | exact Bool.eq_false_iff.mp (by with_reducible assumption))).trans ?_))); rfl))
theorem word11 : True := by
  k_with "call ref" => (k_here; (with_reducible show wpAny _ _ (call (Value.ref 105) _) _ _ _); k_dflt (refine' use_ct3 (c_unpack ?cx ?cf ?c0) ?gB ?gF ?gX ?gN ?gT ?gk ?gd ?gu ?_; (case gB => k_asm); (case gF => k_asm); (case gX => k_asm); (case gN => k_asm); (case gT => k_asm); (case gk => first | exact rfl | assumption); (case cx => first | assumption | exact FmIn.up1 (by assumption) | exact FmIn.up2 (by assumption) | exact FmIn.up3 (by assumption)); (case cf => assumption); (case c0 => ((with_reducible apply bitsLe); (bits_by_make); decide)); (case gd => ktr_room); (case gu => ktr_units)); intro r9 t91 t92 t93 h9 tk9 F9 N9; (try dsimp only); (try k_fold))
  trivial
local macro_rules | `(tactic| walk_at "exec While Compare cons nil") => `(tactic| k_extra "exec While Compare cons nil")
theorem word12 : True := by
  k_with "exec While Compare cons nil" => first
      | ((with_reducible show wpAny _ _ (exec (Stmt.While (Expr.Compare (Expr.BinOp _ _ _ _) _ _ _) _ _ _) _) _ _ _); k_while_given ["m"] (fun m script st => 1 ≤ st ∧ st ≤ 200000 ∧ P2 st) (fun m script st => m.toNat + 1 - st.toNat) "step")
      | (k_while_given ["m!"] (fun m₀ script m c st => 0 ≤ st ∧ st ≤ 200000 ∧ P3 m₀ m c st) (fun m₀ script m c st => st.toNat) "m" "count" "step")
  trivial

set_option maxHeartbeats 8000000 in
theorem c_bits {w : World} {mean : ExcName → Option Value} {mg mb : Str → Option Value} {news : List (Addr × Obj)} {m₀ : Int} {u1 : Tok}
  (h3 : intBits m₀ ≤ 100000) (h0 : 0 ≤ m₀) :
  Ct w mean mg mb 112 1 news [.int m₀ u1] (fun v => IsI (blen m₀) v ∧ (0 ≤ blen m₀ ∧ blen m₀ ≤ 100000)) := by
  unfold Ct
  k_fill
  intro dp un gd cn cs a ccd cl outer A₀ base h₀ L m s Q E B F X N T hk hd hu hret
  k_with "state" => first | exact w1_start | exact w1_turn h3 (by assumption) (by assumption) (by assumption) | exact w2_start h0 h3 (by assumption) (by assumption) (by assumption) (by assumption) | exact w2_turnA (by assumption) (by assumption) (by assumption) (by assumption) | exact w2_turnB (by assumption) (by assumption) (by assumption) (by assumption)
  k_with "measure" => first | exact w1_less h3 (by assumption) (by assumption) | exact w2_less (by assumption)
  refine wpAny_call ?_
  k_dflt ktr_enter
  k_steps
  all_goals (refine endP hret ?eF ?eN ?eV ?eP; (case eF => k_asm); (case eN => (first | k_asm | exact drop1 (by k_asm) | exact drop2 (by k_asm) | exact drop3 (by k_asm))); (case eV => first | exact w2_end1 (by assumption) (by assumption) (by assumption) (by assumption) | exact w2_end0 (by assumption) (by assumption)); (case eP => exact ⟨blen_nonneg _, blen_bits h3⟩))
theorem word13 : True := by
  k_with "call ref" => (k_here; (with_reducible show wpAny _ _ (call (Value.ref 112) _) _ _ _); k_dflt (refine' use_ct (c_bits ?c0 ?c1) ?gB ?gF ?gX ?gN ?gT ?gk ?gd ?gu ?_; (case gB => k_asm); (case gF => k_asm); (case gX => k_asm); (case gN => k_asm); (case gT => k_asm); (case gk => first | exact rfl | assumption); (case c0 => ((with_reducible apply bitsLe); (bits_by_make); decide)); (case c1 => first | assumption | omega); (case gd => ktr_room); (case gu => ktr_units)); intro v9 h9 tk9 hR9 F9 N9; (obtain ⟨⟨t9, e9⟩, hP9a, hP9b⟩ := hR9; subst e9); (try dsimp only); (try k_fold))
  trivial

set_option maxHeartbeats 8000000 in
theorem c_rshift {w : World} {mean : ExcName → Option Value} {mg mb : Str → Option Value} {news : List (Addr × Obj)} {m sh : Int} {rest : Bool} {u1 u2 : Tok}
  (h3 : intBits m ≤ 90000) (h0 : 0 ≤ m) (h1 : -300 ≤ sh) (h2 : sh ≤ 100000) :
  Ct w mean mg mb 119 1 news [.int m u1, .int sh u2, .bool rest] (fun v => IsI (rsF m sh rest) v ∧ (0 ≤ rsF m sh rest ∧ intBits (rsF m sh rest) ≤ 91000)) := by
  unfold Ct
  k_fill
  intro dp un gd cn cs a ccd cl outer A₀ base h₀ L m s Q E B F X N T hk hd hu hret
  refine wpAny_call ?_
  k_dflt ktr_enter
  k_steps
  all_goals (refine endP hret ?eF ?eN ?eV ?eP; (case eF => k_asm); (case eN => (first | k_asm | exact drop1 (by k_asm) | exact drop2 (by k_asm) | exact drop3 (by k_asm))); (case eV => (refine Eq.symm ?_); (unfold rsF); (repeat (first | (with_reducible refine (if_pos (by first | with_reducible assumption | omega | exact Bool.eq_false_iff.mp (by with_reducible assumption))).trans ?_) | (with_reducible refine (if_neg (by first | with_reducible assumption | omega | exact Bool.eq_false_iff.mp (by with_reducible assumption))).trans ?_))); rfl); (case eP => exact ⟨rsF_nonneg h0, rsF_bits h3 h1⟩))
theorem word14 : True := by
  k_with "call ref" => (k_here; (with_reducible show wpAny _ _ (call (Value.ref 119) _) _ _ _); k_dflt (refine' use_ct (c_rshift ?c0 ?c1 ?c2 ?c3) ?gB ?gF ?gX ?gN ?gT ?gk ?gd ?gu ?_; (case gB => k_asm); (case gF => k_asm); (case gX => k_asm); (case gN => k_asm); (case gT => k_asm); (case gk => first | exact rfl | assumption); (case c0 => ((with_reducible apply bitsLe); (bits_by_make); decide)); (case c1 => first | assumption | omega); (case c2 => omega); (case c3 => omega); (case gd => ktr_room); (case gu => ktr_units)); intro v9 h9 tk9 hR9 F9 N9; (obtain ⟨⟨t9, e9⟩, hP9a, hP9b⟩ := hR9; subst e9); (try dsimp only); (try k_fold))
  trivial

set_option maxHeartbeats 8000000 in
theorem c_pack5 {w : World} {mean : ExcName → Option Value} {mg mb : Str → Option Value} {news : List (Addr × Obj)} {x : Addr} {f : Fm} {sg mm e : Int} {rest : Bool} {u1 u2 u3 : Tok}
  (hx : FmIn w news x f) (hf : FmB f) (h3 : intBits sg ≤ 100000) (hm0 : 0 ≤ mm) (hm1 : intBits mm ≤ 90000) (hl0 : -9000 ≤ e) (hl1 : e ≤ 9000) :
  Ct w mean mg mb 127 3 news [.ref x, .int sg u1, .int mm u2, .int e u3, .bool rest] (IsI (packF f sg mm e rest)) := by
  unfold Ct
  k_fill
  intro dp un gd cn cs a ccd cl outer A₀ base h₀ L m s Q E B F X N T hk hd hu hret
  have hfm := hx
  have hfb := hf
  obtain ⟨dx, k1, k2, k3, k4, k5, k6, t1, t2, t3, t4, t5, t6, hx, hdx⟩ := hx
  obtain ⟨e0, e1, f0, f1, b0, b1, q0, q1, i0, i1, l0, l1⟩ := hf
  refine wpAny_call ?_
  k_dflt (refine' code_def ?k1 ?k2 ?k3 ?k4 ?k5 ?kA ?kF ?kK ?k6 ?k7 ?k8 ?k9 ?kB ?_ ?c2 ?c3 ?c4 ?c5; (case kA => exact rfl); (case kF => exact rfl); (case kK => assumption); (case k1 => k_asm); (case k2 => k_asm); (case k3 => k_asm); (case k4 => k_asm); (case k5 => k_asm); (case k6 => k_is); (case k7 => k_is); (case k8 => ktr_room); (case k9 => exact binds_K (by k_in) rfl (by k_is) rfl rfl rfl); (case c5 => decide); (case kB => exact locs rfl); (case c2 => exact rfl); (case c3 => exact rfl); (case c4 => exact rfl); k_whole; intro g' L' h' FG' F' N' B' X' T'; (try dsimp only); (try k_fold))
  k_steps
  all_goals (refine endI hret ?eF ?eN ?eV; (case eF => k_asm); (case eN => (first | k_asm | exact drop1 (by k_asm) | exact drop2 (by k_asm) | exact drop3 (by k_asm))); (case eV => (refine Eq.symm ?_); (unfold packF placeF packTail); (repeat (first | (with_reducible refine (if_pos (by first | with_reducible assumption | omega | exact Bool.eq_false_iff.mp (by with_reducible assumption))).trans ?_) | (with_reducible refine (if_neg (by first | with_reducible assumption | omega | exact Bool.eq_false_iff.mp (by with_reducible assumption))).trans ?_))); rfl))
theorem word15 : True := by
  k_with "call ref" => (k_here; (with_reducible show wpAny _ _ (call (Value.ref 127) _) _ _ _); k_dflt (refine' use_ct (c_pack5 ?cx ?cf ?c0 ?c1 ?c2 ?c3 ?c4) ?gB ?gF ?gX ?gN ?gT ?gk ?gd ?gu ?_; (case gB => k_asm); (case gF => k_asm); (case gX => k_asm); (case gN => k_asm); (case gT => k_asm); (case gk => first | exact rfl | assumption); (case cx => first | assumption | exact FmIn.up1 (by assumption) | exact FmIn.up2 (by assumption) | exact FmIn.up3 (by assumption)); (case cf => assumption); (case c0 => ((with_reducible apply bitsLe); (bits_by_make); decide)); (case c1 => first | assumption | omega | exact ratio_nonneg (by assumption) (by assumption)); (case c2 => ((with_reducible apply bitsLe); (bits_by_make); decide)); (case c3 => first | assumption | omega); (case c4 => first | assumption | omega); (case gd => ktr_room); (case gu => ktr_units)); intro v9 h9 tk9 hR9 F9 N9; (obtain ⟨t9, e9⟩ := hR9; subst e9); (try dsimp only); (try k_fold))
  trivial

set_option maxHeartbeats 8000000 in
theorem c_pack4 {w : World} {mean : ExcName → Option Value} {mg mb : Str → Option Value} {news : List (Addr × Obj)} {x : Addr} {f : Fm} {sg mm e : Int} {u1 u2 u3 : Tok}
  (hx : FmIn w news x f) (hf : FmB f) (h3 : intBits sg ≤ 100000) (hm0 : 0 ≤ mm) (hm1 : intBits mm ≤ 90000) (hl0 : -9000 ≤ e) (hl1 : e ≤ 9000) :
  Ct w mean mg mb 127 3 news [.ref x, .int sg u1, .int mm u2, .int e u3] (IsI (packF f sg mm e false)) := by
  unfold Ct
  k_fill
  intro dp un gd cn cs a ccd cl outer A₀ base h₀ L m s Q E B F X N T hk hd hu hret
  have hfm := hx
  have hfb := hf
  obtain ⟨dx, k1, k2, k3, k4, k5, k6, t1, t2, t3, t4, t5, t6, hx, hdx⟩ := hx
  obtain ⟨e0, e1, f0, f1, b0, b1, q0, q1, i0, i1, l0, l1⟩ := hf
  refine wpAny_call ?_
  k_dflt (refine' code_def ?k1 ?k2 ?k3 ?k4 ?k5 ?kA ?kF ?kK ?k6 ?k7 ?k8 ?k9 ?kB ?_ ?c2 ?c3 ?c4 ?c5; (case kA => exact rfl); (case kF => exact rfl); (case kK => assumption); (case k1 => k_asm); (case k2 => k_asm); (case k3 => k_asm); (case k4 => k_asm); (case k5 => k_asm); (case k6 => k_is); (case k7 => k_is); (case k8 => ktr_room); (case k9 => exact binds_K (by k_in) rfl (by k_is) rfl rfl rfl); (case c5 => decide); (case kB => exact locs rfl); (case c2 => exact rfl); (case c3 => exact rfl); (case c4 => exact rfl); k_whole; intro g' L' h' FG' F' N' B' X' T'; (try dsimp only); (try k_fold))
  k_steps
  all_goals (refine endI hret ?eF ?eN ?eV; (case eF => k_asm); (case eN => (first | k_asm | exact drop1 (by k_asm) | exact drop2 (by k_asm) | exact drop3 (by k_asm))); (case eV => (refine Eq.symm ?_); (unfold packF placeF packTail); (repeat (first | (with_reducible refine (if_pos (by first | with_reducible assumption | omega | exact Bool.eq_false_iff.mp (by with_reducible assumption))).trans ?_) | (with_reducible refine (if_neg (by first | with_reducible assumption | omega | exact Bool.eq_false_iff.mp (by with_reducible assumption))).trans ?_))); rfl))
theorem word16 : True := by
  k_with "call ref" => (k_here; (with_reducible show wpAny _ _ (call (Value.ref 127) _) _ _ _); k_dflt (refine' use_ct (c_pack4 ?cx ?cf ?c0 ?c1 ?c2 ?c3 ?c4) ?gB ?gF ?gX ?gN ?gT ?gk ?gd ?gu ?_; (case gB => k_asm); (case gF => k_asm); (case gX => k_asm); (case gN => k_asm); (case gT => k_asm); (case gk => first | exact rfl | assumption); (case cx => first | assumption | exact FmIn.up1 (by assumption) | exact FmIn.up2 (by assumption) | exact FmIn.up3 (by assumption)); (case cf => assumption); (case c0 => ((with_reducible apply bitsLe); (bits_by_make); decide)); (case c1 => first | assumption | omega | exact ratio_nonneg (by assumption) (by assumption)); (case c2 => ((with_reducible apply bitsLe); (bits_by_make); decide)); (case c3 => first | assumption | omega); (case c4 => first | assumption | omega); (case gd => ktr_room); (case gu => ktr_units)); intro v9 h9 tk9 hR9 F9 N9; (obtain ⟨t9, e9⟩ := hR9; subst e9); (try dsimp only); (try k_fold))
  trivial
local macro_rules | `(tactic| bits_by_make) => `(tactic| ((with_reducible refine bits_pow900 ?_); omega))

set_option maxHeartbeats 8000000 in
theorem c_neg {w : World} {mean : ExcName → Option Value} {mg mb : Str → Option Value} {news : List (Addr × Obj)} {x : Addr} {f : Fm} {b : Int} {u1 : Tok}
  (hx : FmIn w news x f) (hf : FmB f) (hb0 : 0 ≤ b) (hb1 : b ≤ 4294967295) :
  Ct w mean mg mb 134 3 news [.ref x, .int b u1] (IsI (negF f b)) := by
  unfold Ct
  k_fill
  intro dp un gd cn cs a ccd cl outer A₀ base h₀ L m s Q E B F X N T hk hd hu hret
  have hfm := hx
  have hfb := hf
  obtain ⟨dx, k1, k2, k3, k4, k5, k6, t1, t2, t3, t4, t5, t6, hx, hdx⟩ := hx
  obtain ⟨e0, e1, f0, f1, b0, b1, q0, q1, i0, i1, l0, l1⟩ := hf
  obtain ⟨rb1, rb2, rb3, rb4, rb5, rb6, rb7, rb8, rb9, rb10⟩ := sp_rng hfb hb0 hb1
  refine wpAny_call ?_
  k_dflt ktr_enter
  k_steps
  all_goals (refine endI hret ?eF ?eN ?eV; (case eF => k_asm); (case eN => (first | k_asm | exact drop1 (by k_asm) | exact drop2 (by k_asm) | exact drop3 (by k_asm))); (case eV => (refine Eq.symm ?_); (unfold negF); (repeat (first | (with_reducible refine (if_pos (by first | with_reducible assumption | omega | exact Bool.eq_false_iff.mp (by with_reducible assumption))).trans ?_) | (with_reducible refine (if_neg (by first | with_reducible assumption | omega | exact Bool.eq_false_iff.mp (by with_reducible assumption))).trans ?_))); rfl))
theorem word17 : True := by
  k_with "call ref" => (k_here; (with_reducible show wpAny _ _ (call (Value.ref 134) _) _ _ _); k_dflt (refine' use_ct (c_neg ?cx ?cf ?c0 ?c1) ?gB ?gF ?gX ?gN ?gT ?gk ?gd ?gu ?_; (case gB => k_asm); (case gF => k_asm); (case gX => k_asm); (case gN => k_asm); (case gT => k_asm); (case gk => first | exact rfl | assumption); (case cx => first | assumption | exact FmIn.up1 (by assumption) | exact FmIn.up2 (by assumption) | exact FmIn.up3 (by assumption)); (case cf => assumption); (case c0 => first | assumption | omega); (case c1 => first | assumption | omega); (case gd => ktr_room); (case gu => ktr_units)); intro v9 h9 tk9 hR9 F9 N9; (obtain ⟨t9, e9⟩ := hR9; subst e9); (try dsimp only); (try k_fold))
  trivial

set_option maxHeartbeats 8000000 in
theorem c_absr {w : World} {mean : ExcName → Option Value} {mg mb : Str → Option Value} {news : List (Addr × Obj)} {x : Addr} {f : Fm} {b : Int} {u1 : Tok}
  (hx : FmIn w news x f) (hf : FmB f) (hb0 : 0 ≤ b) (hb1 : b ≤ 4294967295) :
  Ct w mean mg mb 141 3 news [.ref x, .int b u1] (IsI (absF f b)) := by
  unfold Ct
  k_fill
  intro dp un gd cn cs a ccd cl outer A₀ base h₀ L m s Q E B F X N T hk hd hu hret
  have hfm := hx
  have hfb := hf
  obtain ⟨dx, k1, k2, k3, k4, k5, k6, t1, t2, t3, t4, t5, t6, hx, hdx⟩ := hx
  obtain ⟨e0, e1, f0, f1, b0, b1, q0, q1, i0, i1, l0, l1⟩ := hf
  obtain ⟨rb1, rb2, rb3, rb4, rb5, rb6, rb7, rb8, rb9, rb10⟩ := sp_rng hfb hb0 hb1
  refine wpAny_call ?_
  k_dflt ktr_enter
  k_steps
  all_goals (refine endI hret ?eF ?eN ?eV; (case eF => k_asm); (case eN => (first | k_asm | exact drop1 (by k_asm) | exact drop2 (by k_asm) | exact drop3 (by k_asm))); (case eV => (refine Eq.symm ?_); (unfold absF); (repeat (first | (with_reducible refine (if_pos (by first | with_reducible assumption | omega | exact Bool.eq_false_iff.mp (by with_reducible assumption))).trans ?_) | (with_reducible refine (if_neg (by first | with_reducible assumption | omega | exact Bool.eq_false_iff.mp (by with_reducible assumption))).trans ?_))); rfl))
theorem word18 : True := by
  k_with "call ref" => (k_here; (with_reducible show wpAny _ _ (call (Value.ref 141) _) _ _ _); k_dflt (refine' use_ct (c_absr ?cx ?cf ?c0 ?c1) ?gB ?gF ?gX ?gN ?gT ?gk ?gd ?gu ?_; (case gB => k_asm); (case gF => k_asm); (case gX => k_asm); (case gN => k_asm); (case gT => k_asm); (case gk => first | exact rfl | assumption); (case cx => first | assumption | exact FmIn.up1 (by assumption) | exact FmIn.up2 (by assumption) | exact FmIn.up3 (by assumption)); (case cf => assumption); (case c0 => first | assumption | omega); (case c1 => first | assumption | omega); (case gd => ktr_room); (case gu => ktr_units)); intro v9 h9 tk9 hR9 F9 N9; (obtain ⟨t9, e9⟩ := hR9; subst e9); (try dsimp only); (try k_fold))
  trivial
local macro_rules | `(tactic| walk_at "eval IfExp") => `(tactic| k_extra "eval IfExp")
local macro_rules | `(tactic| walk_at "exec If") => `(tactic| k_extra "exec If")
local macro_rules | `(tactic| walk_at "isTrue BoolOp") => `(tactic| k_extra "isTrue BoolOp")

set_option maxHeartbeats 8000000 in
theorem c_addfin {w : World} {mean : ExcName → Option Value} {mg mb : Str → Option Value} {news : List (Addr × Obj)} {x : Addr} {f : Fm} {a₁ b : Int} {u1 u2 : Tok}
  (hx : FmIn w news x f) (hf : FmB f) (ha0 : 0 ≤ a₁) (ha1 : a₁ ≤ 4294967295) (hb0 : 0 ≤ b) (hb1 : b ≤ 4294967295) :
  Ct w mean mg mb 148 4 news [.ref x, .int a₁ u1, .int b u2] (IsI (addFin f a₁ b)) := by
  unfold Ct
  k_fill
  intro dp un gd cn cs a ccd cl outer A₀ base h₀ L m s Q E B F X N T hk hd hu hret
  have hfm := hx
  have hfb := hf
  obtain ⟨dx, k1, k2, k3, k4, k5, k6, t1, t2, t3, t4, t5, t6, hx, hdx⟩ := hx
  obtain ⟨e0, e1, f0, f1, b0, b1, q0, q1, i0, i1, l0, l1⟩ := hf
  obtain ⟨ra1, ra2, ra3, ra4, ra5, ra6, ra7, ra8, ra9, ra10⟩ := sp_rng hfb ha0 ha1
  obtain ⟨rb1, rb2, rb3, rb4, rb5, rb6, rb7, rb8, rb9, rb10⟩ := sp_rng hfb hb0 hb1
  have rn := and_range' ra1 rb1
  have lo0 : f.least ≤ loF f a₁ b ∧ loF f a₁ b ≤ unE f a₁ ∧ loF f a₁ b ≤ unE f b := by unfold loF; split <;> omega
  have sb1 : intBits (sgU f a₁ (loF f a₁ b)) ≤ 1000 := sgU_bits ra7 ra8 (by omega)
  have sb2 : intBits (sgU f b (loF f a₁ b)) ≤ 1000 := sgU_bits rb7 rb8 (by omega)
  k_with "exec If" => ((with_reducible show wpAny _ _ (exec (Stmt.If (Expr.Compare (Expr.Name (Str.ofString "sign") _) _ _ _) _ _ _) _) _ _ _); (fail_if_success (with_reducible show wpAny _ _ _ (CutS _ _ _ _ _ _ _) _ _)); k_dflt (refine cut_s (Str.ofString "total") (sgU f a₁ (loF f a₁ b)) (by k_asm) (by k_asm) ?_ ?_); rotate_left; (intro t9 h9 tk9 F9 N9); (try dsimp only); (try k_fold))
  k_with "exec If" => ((with_reducible show wpAny _ _ (exec (Stmt.If (Expr.Compare (Expr.Name (Str.ofString "other") _) _ _ _) _ _ _) _) _ _ _); (fail_if_success (with_reducible show wpAny _ _ _ (CutS _ _ _ _ _ _ _) _ _)); k_dflt (refine cut_s (Str.ofString "more") (sgU f b (loF f a₁ b)) (by k_asm) (by k_asm) ?_ ?_); rotate_left; (intro t9 h9 tk9 F9 N9); (try dsimp only); (try k_fold))
  refine wpAny_call ?_
  k_dflt ktr_enter
  k_steps
  all_goals (first | (refine cut_s_end (by k_asm) (by k_asm) (by first | exact if_pos rfl | exact (if_neg (by decide)).trans (if_pos rfl)) (by intro y hy; first | rfl | simp only [if_neg hy]) ?_; first | (unfold sgU upF loF; exact join_eq (by assumption)) | ((refine Eq.symm ?_); (unfold sgU upF loF); (repeat (first | (with_reducible refine (if_pos (by first | with_reducible assumption | omega | exact Bool.eq_false_iff.mp (by with_reducible assumption))).trans ?_) | (with_reducible refine (if_neg (by first | with_reducible assumption | omega | exact Bool.eq_false_iff.mp (by with_reducible assumption))).trans ?_))); rfl)) | (refine endI hret ?eF ?eN ?eV; (case eF => k_asm); (case eN => (first | k_asm | exact drop1 (by k_asm) | exact drop2 (by k_asm) | exact drop3 (by k_asm))); (case eV => (refine Eq.symm ?_); (unfold addFin addTail); (repeat (first | (with_reducible refine (if_pos (by first | with_reducible assumption | omega | exact Bool.eq_false_iff.mp (by with_reducible assumption))).trans ?_) | (with_reducible refine (if_neg (by first | with_reducible assumption | omega | exact Bool.eq_false_iff.mp (by with_reducible assumption))).trans ?_))); rfl)))
theorem word19 : True := by
  k_with "call ref" => (k_here; (with_reducible show wpAny _ _ (call (Value.ref 148) _) _ _ _); k_dflt (refine' use_ct (c_addfin ?cx ?cf ?c0 ?c1 ?c2 ?c3) ?gB ?gF ?gX ?gN ?gT ?gk ?gd ?gu ?_; (case gB => k_asm); (case gF => k_asm); (case gX => k_asm); (case gN => k_asm); (case gT => k_asm); (case gk => first | exact rfl | assumption); (case cx => first | assumption | exact FmIn.up1 (by assumption) | exact FmIn.up2 (by assumption) | exact FmIn.up3 (by assumption)); (case cf => assumption); (case c0 => first | assumption | omega); (case c1 => first | assumption | omega); (case c2 => first | assumption | omega); (case c3 => first | assumption | omega); (case gd => ktr_room); (case gu => ktr_units)); intro v9 h9 tk9 hR9 F9 N9; (obtain ⟨t9, e9⟩ := hR9; subst e9); (try dsimp only); (try k_fold))
  trivial

set_option maxHeartbeats 8000000 in
theorem c_add {w : World} {mean : ExcName → Option Value} {mg mb : Str → Option Value} {news : List (Addr × Obj)} {x : Addr} {f : Fm} {a₁ b : Int} {u1 u2 : Tok}
  (hx : FmIn w news x f) (hf : FmB f) (ha0 : 0 ≤ a₁) (ha1 : a₁ ≤ 4294967295) (hb0 : 0 ≤ b) (hb1 : b ≤ 4294967295) :
  Ct w mean mg mb 155 5 news [.ref x, .int a₁ u1, .int b u2] (IsI (addF f a₁ b)) := by
  unfold Ct
  k_fill
  intro dp un gd cn cs a ccd cl outer A₀ base h₀ L m s Q E B F X N T hk hd hu hret
  have hfm := hx
  have hfb := hf
  obtain ⟨dx, k1, k2, k3, k4, k5, k6, t1, t2, t3, t4, t5, t6, hx, hdx⟩ := hx
  obtain ⟨e0, e1, f0, f1, b0, b1, q0, q1, i0, i1, l0, l1⟩ := hf
  obtain ⟨ra1, ra2, ra3, ra4, ra5, ra6, ra7, ra8, ra9, ra10⟩ := sp_rng hfb ha0 ha1
  obtain ⟨rb1, rb2, rb3, rb4, rb5, rb6, rb7, rb8, rb9, rb10⟩ := sp_rng hfb hb0 hb1
  refine wpAny_call ?_
  k_dflt ktr_enter
  k_steps
  all_goals (refine endI hret ?eF ?eN ?eV; (case eF => k_asm); (case eN => (first | k_asm | exact drop1 (by k_asm) | exact drop2 (by k_asm) | exact drop3 (by k_asm))); (case eV => (refine Eq.symm ?_); (unfold addF); (repeat (first | (with_reducible refine (if_pos (by first | with_reducible assumption | omega | exact Bool.eq_false_iff.mp (by with_reducible assumption))).trans ?_) | (with_reducible refine (if_neg (by first | with_reducible assumption | omega | exact Bool.eq_false_iff.mp (by with_reducible assumption))).trans ?_))); rfl))
theorem word20 : True := by
  k_with "call ref" => (k_here; (with_reducible show wpAny _ _ (call (Value.ref 155) _) _ _ _); k_dflt (refine' use_ct (c_add ?cx ?cf ?c0 ?c1 ?c2 ?c3) ?gB ?gF ?gX ?gN ?gT ?gk ?gd ?gu ?_; (case gB => k_asm); (case gF => k_asm); (case gX => k_asm); (case gN => k_asm); (case gT => k_asm); (case gk => first | exact rfl | assumption); (case cx => first | assumption | exact FmIn.up1 (by assumption) | exact FmIn.up2 (by assumption) | exact FmIn.up3 (by assumption)); (case cf => assumption); (case c0 => first | assumption | omega); (case c1 => first | assumption | omega); (case c2 => first | assumption | omega); (case c3 => first | assumption | omega); (case gd => ktr_room); (case gu => ktr_units)); intro v9 h9 tk9 hR9 F9 N9; (obtain ⟨t9, e9⟩ := hR9; subst e9); (try dsimp only); (try k_fold))
  trivial

set_option maxHeartbeats 8000000 in
theorem c_sub {w : World} {mean : ExcName → Option Value} {mg mb : Str → Option Value} {news : List (Addr × Obj)} {x : Addr} {f : Fm} {a₁ b : Int} {u1 u2 : Tok}
  (hx : FmIn w news x f) (hf : FmB f) (ha0 : 0 ≤ a₁) (ha1 : a₁ ≤ 4294967295) (hb0 : 0 ≤ b) (hb1 : b ≤ 4294967295) (hn0 : 0 ≤ negF f b) (hn1 : negF f b ≤ 4294967295) :
  Ct w mean mg mb 162 6 news [.ref x, .int a₁ u1, .int b u2] (IsI (addF f a₁ (negF f b))) := by
  unfold Ct
  k_fill
  intro dp un gd cn cs a ccd cl outer A₀ base h₀ L m s Q E B F X N T hk hd hu hret
  have hfm := hx
  have hfb := hf
  obtain ⟨dx, k1, k2, k3, k4, k5, k6, t1, t2, t3, t4, t5, t6, hx, hdx⟩ := hx
  obtain ⟨e0, e1, f0, f1, b0, b1, q0, q1, i0, i1, l0, l1⟩ := hf
  refine wpAny_call ?_
  k_dflt ktr_enter
  k_steps
  all_goals (refine endI hret ?eF ?eN ?eV; (case eF => k_asm); (case eN => (first | k_asm | exact drop1 (by k_asm) | exact drop2 (by k_asm) | exact drop3 (by k_asm))); (case eV => rfl))
theorem word21 : True := by
  k_with "call ref" => (k_here; (with_reducible show wpAny _ _ (call (Value.ref 162) _) _ _ _); k_dflt (refine' use_ct (c_sub ?cx ?cf ?c0 ?c1 ?c2 ?c3 ?c4 ?c5) ?gB ?gF ?gX ?gN ?gT ?gk ?gd ?gu ?_; (case gB => k_asm); (case gF => k_asm); (case gX => k_asm); (case gN => k_asm); (case gT => k_asm); (case gk => first | exact rfl | assumption); (case cx => first | assumption | exact FmIn.up1 (by assumption) | exact FmIn.up2 (by assumption) | exact FmIn.up3 (by assumption)); (case cf => assumption); (case c0 => first | assumption | omega); (case c1 => first | assumption | omega); (case c2 => first | assumption | omega); (case c3 => first | assumption | omega); (case c4 => first | assumption | omega); (case c5 => first | assumption | omega); (case gd => ktr_room); (case gu => ktr_units)); intro v9 h9 tk9 hR9 F9 N9; (obtain ⟨t9, e9⟩ := hR9; subst e9); (try dsimp only); (try k_fold))
  trivial

set_option maxHeartbeats 8000000 in
theorem c_mul {w : World} {mean : ExcName → Option Value} {mg mb : Str → Option Value} {news : List (Addr × Obj)} {x : Addr} {f : Fm} {a₁ b : Int} {u1 u2 : Tok}
  (hx : FmIn w news x f) (hf : FmB f) (ha0 : 0 ≤ a₁) (ha1 : a₁ ≤ 4294967295) (hb0 : 0 ≤ b) (hb1 : b ≤ 4294967295) :
  Ct w mean mg mb 169 4 news [.ref x, .int a₁ u1, .int b u2] (IsI (mulF f a₁ b)) := by
  unfold Ct
  k_fill
  intro dp un gd cn cs a ccd cl outer A₀ base h₀ L m s Q E B F X N T hk hd hu hret
  have hfm := hx
  have hfb := hf
  obtain ⟨dx, k1, k2, k3, k4, k5, k6, t1, t2, t3, t4, t5, t6, hx, hdx⟩ := hx
  obtain ⟨e0, e1, f0, f1, b0, b1, q0, q1, i0, i1, l0, l1⟩ := hf
  obtain ⟨ra1, ra2, ra3, ra4, ra5, ra6, ra7, ra8, ra9, ra10⟩ := sp_rng hfb ha0 ha1
  obtain ⟨rb1, rb2, rb3, rb4, rb5, rb6, rb7, rb8, rb9, rb10⟩ := sp_rng hfb hb0 hb1
  have rx := xor_rng ra1 ra2 rb1 rb2
  have rm := Int.mul_nonneg ra7 rb7
  refine wpAny_call ?_
  k_dflt ktr_enter
  k_steps
  all_goals (refine endI hret ?eF ?eN ?eV; (case eF => k_asm); (case eN => (first | k_asm | exact drop1 (by k_asm) | exact drop2 (by k_asm) | exact drop3 (by k_asm))); (case eV => (refine Eq.symm ?_); (unfold mulF sgF); (repeat (first | (with_reducible refine (if_pos (by first | with_reducible assumption | omega | exact Bool.eq_false_iff.mp (by with_reducible assumption))).trans ?_) | (with_reducible refine (if_neg (by first | with_reducible assumption | omega | exact Bool.eq_false_iff.mp (by with_reducible assumption))).trans ?_))); rfl))
theorem word22 : True := by
  k_with "call ref" => (k_here; (with_reducible show wpAny _ _ (call (Value.ref 169) _) _ _ _); k_dflt (refine' use_ct (c_mul ?cx ?cf ?c0 ?c1 ?c2 ?c3) ?gB ?gF ?gX ?gN ?gT ?gk ?gd ?gu ?_; (case gB => k_asm); (case gF => k_asm); (case gX => k_asm); (case gN => k_asm); (case gT => k_asm); (case gk => first | exact rfl | assumption); (case cx => first | assumption | exact FmIn.up1 (by assumption) | exact FmIn.up2 (by assumption) | exact FmIn.up3 (by assumption)); (case cf => assumption); (case c0 => first | assumption | omega); (case c1 => first | assumption | omega); (case c2 => first | assumption | omega); (case c3 => first | assumption | omega); (case gd => ktr_room); (case gu => ktr_units)); intro v9 h9 tk9 hR9 F9 N9; (obtain ⟨t9, e9⟩ := hR9; subst e9); (try dsimp only); (try k_fold))
  trivial

set_option maxHeartbeats 8000000 in
theorem c_ratio {w : World} {mean : ExcName → Option Value} {mg mb : Str → Option Value} {news : List (Addr × Obj)} {x : Addr} {f : Fm} {sg ov un₁ e : Int} {u1 u2 u3 u4 : Tok}
  (hx : FmIn w news x f) (hf : FmB f) (h3 : intBits sg ≤ 64) (ho0 : 0 ≤ ov) (ho1 : ov ≤ 16777216) (hv0 : 0 < un₁) (hv1 : un₁ ≤ 16777216) (he0 : -1000 ≤ e) (he1 : e ≤ 1000) :
  Ct w mean mg mb 177 4 news [.ref x, .int sg u1, .int ov u2, .int un₁ u3, .int e u4] (IsI (fromF f sg ov un₁ e)) := by
  unfold Ct
  k_fill
  intro dp un gd cn cs a ccd cl outer A₀ base h₀ L m s Q E B F X N T hk hd hu hret
  have hfm := hx
  have hfb := hf
  obtain ⟨dx, k1, k2, k3, k4, k5, k6, t1, t2, t3, t4, t5, t6, hx, hdx⟩ := hx
  obtain ⟨e0, e1, f0, f1, b0, b1, q0, q1, i0, i1, l0, l1⟩ := hf
  have ro := blen25 ho1
  have ru := blen25 hv1
  have ro' := blen_nonneg ov
  have ru' := blen_nonneg un₁
  refine wpAny_call ?_
  k_dflt (refine' code_def ?k1 ?k2 ?k3 ?k4 ?k5 ?kA ?kF ?kK ?k6 ?k7 ?k8 ?k9 ?kB ?_ ?c2 ?c3 ?c4 ?c5; (case kA => exact rfl); (case kF => exact rfl); (case kK => assumption); (case k1 => k_asm); (case k2 => k_asm); (case k3 => k_asm); (case k4 => k_asm); (case k5 => k_asm); (case k6 => k_is); (case k7 => k_is); (case k8 => ktr_room); (case k9 => exact binds_K (by k_in) rfl (by k_is) rfl rfl rfl); (case c5 => decide); (case kB => exact locs rfl); (case c2 => exact rfl); (case c3 => exact rfl); (case c4 => exact rfl); k_whole; intro g' L' h' FG' F' N' B' X' T'; (try dsimp only); (try k_fold))
  k_steps
  all_goals (refine endI hret ?eF ?eN ?eV; (case eF => k_asm); (case eN => (first | k_asm | exact drop1 (by k_asm) | exact drop2 (by k_asm) | exact drop3 (by k_asm))); (case eV => (refine Eq.symm ?_); (unfold fromF quF shF); (repeat (first | (with_reducible refine (if_pos (by first | with_reducible assumption | omega | exact Bool.eq_false_iff.mp (by with_reducible assumption))).trans ?_) | (with_reducible refine (if_neg (by first | with_reducible assumption | omega | exact Bool.eq_false_iff.mp (by with_reducible assumption))).trans ?_))); rfl))
theorem word23 : True := by
  k_with "call ref" => (k_here; (with_reducible show wpAny _ _ (call (Value.ref 177) _) _ _ _); k_dflt (refine' use_ct (c_ratio ?cx ?cf ?c0 ?c1 ?c2 ?c3 ?c4 ?c5 ?c6) ?gB ?gF ?gX ?gN ?gT ?gk ?gd ?gu ?_; (case gB => k_asm); (case gF => k_asm); (case gX => k_asm); (case gN => k_asm); (case gT => k_asm); (case gk => first | exact rfl | assumption); (case cx => first | assumption | exact FmIn.up1 (by assumption) | exact FmIn.up2 (by assumption) | exact FmIn.up3 (by assumption)); (case cf => assumption); (case c0 => ((with_reducible apply bitsLe); (bits_by_make); decide)); (case c1 => first | assumption | omega); (case c2 => first | assumption | omega); (case c3 => first | assumption | omega | exact use_hz (by assumption) (by assumption)); (case c4 => first | assumption | omega); (case c5 => first | assumption | omega); (case c6 => first | assumption | omega); (case gd => ktr_room); (case gu => ktr_units)); intro v9 h9 tk9 hR9 F9 N9; (obtain ⟨t9, e9⟩ := hR9; subst e9); (try dsimp only); (try k_fold))
  trivial

set_option maxHeartbeats 8000000 in
theorem c_div {w : World} {mean : ExcName → Option Value} {mg mb : Str → Option Value} {news : List (Addr × Obj)} {x : Addr} {f : Fm} {a₁ b : Int} {u1 u2 : Tok}
  (hx : FmIn w news x f) (hf : FmB f) (ha0 : 0 ≤ a₁) (ha1 : a₁ ≤ 4294967295) (hb0 : 0 ≤ b) (hb1 : b ≤ 4294967295) (hz : isZ f b ≠ true → 0 < unM f b) :
  Ct w mean mg mb 184 5 news [.ref x, .int a₁ u1, .int b u2] (IsI (divF f a₁ b)) := by
  unfold Ct
  k_fill
  intro dp un gd cn cs a ccd cl outer A₀ base h₀ L m s Q E B F X N T hk hd hu hret
  have hfm := hx
  have hfb := hf
  obtain ⟨dx, k1, k2, k3, k4, k5, k6, t1, t2, t3, t4, t5, t6, hx, hdx⟩ := hx
  obtain ⟨e0, e1, f0, f1, b0, b1, q0, q1, i0, i1, l0, l1⟩ := hf
  obtain ⟨ra1, ra2, ra3, ra4, ra5, ra6, ra7, ra8, ra9, ra10⟩ := sp_rng hfb ha0 ha1
  obtain ⟨rb1, rb2, rb3, rb4, rb5, rb6, rb7, rb8, rb9, rb10⟩ := sp_rng hfb hb0 hb1
  have rx := xor_rng ra1 ra2 rb1 rb2
  refine wpAny_call ?_
  k_dflt ktr_enter
  k_steps
  all_goals (refine endI hret ?eF ?eN ?eV; (case eF => k_asm); (case eN => (first | k_asm | exact drop1 (by k_asm) | exact drop2 (by k_asm) | exact drop3 (by k_asm))); (case eV => (refine Eq.symm ?_); (unfold divF sgF); (repeat (first | (with_reducible refine (if_pos (by first | with_reducible assumption | omega | exact Bool.eq_false_iff.mp (by with_reducible assumption))).trans ?_) | (with_reducible refine (if_neg (by first | with_reducible assumption | omega | exact Bool.eq_false_iff.mp (by with_reducible assumption))).trans ?_))); rfl))
theorem word24 : True := by
  k_with "call ref" => (k_here; (with_reducible show wpAny _ _ (call (Value.ref 184) _) _ _ _); k_dflt (refine' use_ct (c_div ?cx ?cf ?c0 ?c1 ?c2 ?c3 ?c4) ?gB ?gF ?gX ?gN ?gT ?gk ?gd ?gu ?_; (case gB => k_asm); (case gF => k_asm); (case gX => k_asm); (case gN => k_asm); (case gT => k_asm); (case gk => first | exact rfl | assumption); (case cx => first | assumption | exact FmIn.up1 (by assumption) | exact FmIn.up2 (by assumption) | exact FmIn.up3 (by assumption)); (case cf => assumption); (case c0 => first | assumption | omega); (case c1 => first | assumption | omega); (case c2 => first | assumption | omega); (case c3 => first | assumption | omega); (case c4 => first | assumption | omega); (case gd => ktr_room); (case gu => ktr_units)); intro v9 h9 tk9 hR9 F9 N9; (obtain ⟨t9, e9⟩ := hR9; subst e9); (try dsimp only); (try k_fold))
  trivial
local macro_rules | `(tactic| bits_by_make) => `(tactic| first | exact bits_span (by assumption) | exact bits_top (by assumption))
theorem word25 : True := by
  k_with "binaryOp Mod int int" => (k_here; (with_reducible refine mod_int' ?kbe ?_); (case kbe => (with_reducible apply span_ne); assumption))
  trivial

set_option maxHeartbeats 8000000 in
theorem c_size {w : World} {mean : ExcName → Option Value} {mg mb : Str → Option Value} {news : List (Addr × Obj)} {x : Addr} {f : Fm} {p : Int} {u1 : Tok}
  (hx : FmIn w news x f) (hf : FmB f) (hp0 : 0 ≤ p) (hp1 : p ≤ spanF f) :
  Ct w mean mg mb 205 1 news [.ref x, .int p u1] (fun v => IsI (sizeF f p) v ∧ (0 ≤ sizeF f p ∧ intBits (sizeF f p) ≤ 400)) := by
  unfold Ct
  k_fill
  intro dp un gd cn cs a ccd cl outer A₀ base h₀ L m s Q E B F X N T hk hd hu hret
  have hfm := hx
  have hfb := hf
  obtain ⟨dx, k1, k2, k3, k4, k5, k6, t1, t2, t3, t4, t5, t6, hx, hdx⟩ := hx
  obtain ⟨e0, e1, f0, f1, b0, b1, q0, q1, i0, i1, l0, l1⟩ := hf
  have hpf := pow_fb hfb
  have hpe := pow_eb hfb
  have hph := place_hi hfb hp0 hp1
  have hpl := @place_lo f hfb p
  refine wpAny_call ?_
  k_dflt ktr_enter
  k_steps
  all_goals (refine endP hret ?eF ?eN ?eV ?eP; (case eF => k_asm); (case eN => (first | k_asm | exact drop1 (by k_asm) | exact drop2 (by k_asm) | exact drop3 (by k_asm))); (case eV => (refine Eq.symm ?_); (unfold sizeF); (repeat (first | (with_reducible refine (if_pos (by first | with_reducible assumption | omega | exact Bool.eq_false_iff.mp (by with_reducible assumption))).trans ?_) | (with_reducible refine (if_neg (by first | with_reducible assumption | omega | exact Bool.eq_false_iff.mp (by with_reducible assumption))).trans ?_))); rfl); (case eP => exact ⟨size_nonneg hfb hp0, size_bits hfb hp0 hp1⟩))
theorem word26 : True := by
  k_with "call ref" => (k_here; (with_reducible show wpAny _ _ (call (Value.ref 205) _) _ _ _); k_dflt (refine' use_ct (c_size ?cx ?cf ?c0 ?c1) ?gB ?gF ?gX ?gN ?gT ?gk ?gd ?gu ?_; (case gB => k_asm); (case gF => k_asm); (case gX => k_asm); (case gN => k_asm); (case gT => k_asm); (case gk => first | exact rfl | assumption); (case cx => first | assumption | exact FmIn.up1 (by assumption) | exact FmIn.up2 (by assumption) | exact FmIn.up3 (by assumption)); (case cf => assumption); (case c0 => first | assumption | omega); (case c1 => first | assumption | omega); (case gd => ktr_room); (case gu => ktr_units)); intro v9 h9 tk9 hR9 F9 N9; (obtain ⟨⟨t9, e9⟩, hP9a, hP9b⟩ := hR9; subst e9); (try dsimp only); (try k_fold))
  trivial

set_option maxHeartbeats 8000000 in
theorem c_top {w : World} {mean : ExcName → Option Value} {mg mb : Str → Option Value} {news : List (Addr × Obj)} {x : Addr} {f : Fm} 
  (hx : FmIn w news x f) (hf : FmB f)  :
  Ct w mean mg mb 212 1 news [.ref x] (IsI (topF f)) := by
  unfold Ct
  k_fill
  intro dp un gd cn cs a ccd cl outer A₀ base h₀ L m s Q E B F X N T hk hd hu hret
  have hfm := hx
  have hfb := hf
  obtain ⟨dx, k1, k2, k3, k4, k5, k6, t1, t2, t3, t4, t5, t6, hx, hdx⟩ := hx
  obtain ⟨e0, e1, f0, f1, b0, b1, q0, q1, i0, i1, l0, l1⟩ := hf
  have hpf := pow_fb hfb
  have hpe := pow_eb hfb
  refine wpAny_call ?_
  k_dflt ktr_enter
  k_steps
  all_goals (refine endI hret ?eF ?eN ?eV; (case eF => k_asm); (case eN => (first | k_asm | exact drop1 (by k_asm) | exact drop2 (by k_asm) | exact drop3 (by k_asm))); (case eV => rfl))
theorem word27 : True := by
  k_with "call ref" => (k_here; (with_reducible show wpAny _ _ (call (Value.ref 212) _) _ _ _); k_dflt (refine' use_ct (c_top ?cx ?cf) ?gB ?gF ?gX ?gN ?gT ?gk ?gd ?gu ?_; (case gB => k_asm); (case gF => k_asm); (case gX => k_asm); (case gN => k_asm); (case gT => k_asm); (case gk => first | exact rfl | assumption); (case cx => first | assumption | exact FmIn.up1 (by assumption) | exact FmIn.up2 (by assumption) | exact FmIn.up3 (by assumption)); (case cf => assumption); (case gd => ktr_room); (case gu => ktr_units)); intro v9 h9 tk9 hR9 F9 N9; (obtain ⟨t9, e9⟩ := hR9; subst e9); (try dsimp only); (try k_fold))
  trivial

set_option maxHeartbeats 8000000 in
theorem c_span {w : World} {mean : ExcName → Option Value} {mg mb : Str → Option Value} {news : List (Addr × Obj)} {x : Addr} {f : Fm} 
  (hx : FmIn w news x f) (hf : FmB f)  :
  Ct w mean mg mb 219 1 news [.ref x] (IsI (spanF f)) := by
  unfold Ct
  k_fill
  intro dp un gd cn cs a ccd cl outer A₀ base h₀ L m s Q E B F X N T hk hd hu hret
  have hfm := hx
  have hfb := hf
  obtain ⟨dx, k1, k2, k3, k4, k5, k6, t1, t2, t3, t4, t5, t6, hx, hdx⟩ := hx
  obtain ⟨e0, e1, f0, f1, b0, b1, q0, q1, i0, i1, l0, l1⟩ := hf
  have hpf := pow_fb hfb
  have hpe := pow_eb hfb
  refine wpAny_call ?_
  k_dflt ktr_enter
  k_steps
  all_goals (refine endI hret ?eF ?eN ?eV; (case eF => k_asm); (case eN => (first | k_asm | exact drop1 (by k_asm) | exact drop2 (by k_asm) | exact drop3 (by k_asm))); (case eV => rfl))
theorem word28 : True := by
  k_with "call ref" => (k_here; (with_reducible show wpAny _ _ (call (Value.ref 219) _) _ _ _); k_dflt (refine' use_ct (c_span ?cx ?cf) ?gB ?gF ?gX ?gN ?gT ?gk ?gd ?gu ?_; (case gB => k_asm); (case gF => k_asm); (case gX => k_asm); (case gN => k_asm); (case gT => k_asm); (case gk => first | exact rfl | assumption); (case cx => first | assumption | exact FmIn.up1 (by assumption) | exact FmIn.up2 (by assumption) | exact FmIn.up3 (by assumption)); (case cf => assumption); (case gd => ktr_room); (case gu => ktr_units)); intro v9 h9 tk9 hR9 F9 N9; (obtain ⟨t9, e9⟩ := hR9; subst e9); (try dsimp only); (try k_fold))
  trivial
local macro_rules | `(tactic| walk_at "binaryOp FloorDiv int int") => `(tactic| k_extra "binaryOp FloorDiv int int")
theorem word29 : True := by
  k_with "binaryOp FloorDiv int int" => (k_here; (with_reducible refine floordiv_int ?kbe ?_ (Or.inl (PyProof.noPylong_of_log2 ?kbp))); (case kbe => (with_reducible apply span_ne); assumption); (case kbp => (with_reducible apply py_span); assumption))
  trivial
local macro_rules | `(tactic| walk_at "pyIter ref") => `(tactic| k_extra "pyIter ref")
theorem word30 : True := by
  k_with "pyIter ref" => (k_here; (with_reducible show wpAny _ _ (pyIter (Value.ref _)) (fun it s₂ => TurnsAt _ _ _ _ _ _ _ _ _ it s₂) _ _); (rename Fr _ _ _ _ => lF'); (rename News _ _ _ _ => lN'); (with_unfolding_all refine iter_tupTurns (vs := [_, _]) (by rfl) lF' lN' (by exact List.mem_cons_self) (by rfl) (by rfl) ?_); clear lF'; intro i' l1)
  trivial
local macro_rules | `(tactic| walk_at "UnrEndW") => `(tactic| k_extra "UnrEndW")
theorem word31 : True := by
  k_with "UnrEndW" => ((refine my_endW (by assumption) (by k_asm) (by k_asm) ?_); refine ⟨⟨List.mem_cons_self, trivial⟩, ?_⟩)
  trivial

set_option maxHeartbeats 8000000 in
theorem c_kind {w : World} {mean : ExcName → Option Value} {mg mb : Str → Option Value} {news : List (Addr × Obj)} {x : Addr} {f : Fm} {n₁ : Int} {u1 : Tok}
  (hx : FmIn w news x f) (hf : FmB f) (h3 : intBits n₁ ≤ 100000) :
  Ct w mean mg mb 226 2 news [.ref x, .int n₁ u1] (IsS (kindF f n₁)) := by
  unfold Ct
  k_fill
  intro dp un gd cn cs a ccd cl outer A₀ base h₀ L m s Q E B F X N T hk hd hu hret
  have hfm := hx
  have hfb := hf
  obtain ⟨dx, k1, k2, k3, k4, k5, k6, t1, t2, t3, t4, t5, t6, hx, hdx⟩ := hx
  obtain ⟨e0, e1, f0, f1, b0, b1, q0, q1, i0, i1, l0, l1⟩ := hf
  have hsf := span_rng hfb
  have hfm1 := fm_rng hfb n₁
  refine wpAny_call ?_
  k_dflt ktr_enter
  k_steps
  all_goals (refine endS hret ?eF ?eN ?eV; (case eF => k_asm); (case eN => (first | k_asm | exact drop1 (by k_asm) | exact drop2 (by k_asm) | exact drop3 (by k_asm))); (case eV => (refine Eq.symm ?_); (unfold kindF); (repeat (first | (with_reducible refine (if_pos (by first | with_reducible assumption | omega | exact Bool.eq_false_iff.mp (by with_reducible assumption))).trans ?_) | (with_reducible refine (if_neg (by first | with_reducible assumption | omega | exact Bool.eq_false_iff.mp (by with_reducible assumption))).trans ?_))); rfl))
theorem word32 : True := by
  k_with "call ref" => (k_here; (with_reducible show wpAny _ _ (call (Value.ref 226) _) _ _ _); k_dflt (refine' use_ct (c_kind ?cx ?cf ?c0) ?gB ?gF ?gX ?gN ?gT ?gk ?gd ?gu ?_; (case gB => k_asm); (case gF => k_asm); (case gX => k_asm); (case gN => k_asm); (case gT => k_asm); (case gk => first | exact rfl | assumption); (case cx => first | assumption | exact FmIn.up1 (by assumption) | exact FmIn.up2 (by assumption) | exact FmIn.up3 (by assumption)); (case cf => assumption); (case c0 => ((with_reducible apply bitsLe); (bits_by_make); decide)); (case gd => ktr_room); (case gu => ktr_units)); intro v9 h9 tk9 hR9 F9 N9; (obtain ⟨t9, e9⟩ := hR9; subst e9); (try dsimp only); (try k_fold))
  trivial

set_option maxHeartbeats 8000000 in
theorem c_side {w : World} {mean : ExcName → Option Value} {mg mb : Str → Option Value} {news : List (Addr × Obj)} {x : Addr} {f : Fm} {n₁ : Int} {u1 : Tok}
  (hx : FmIn w news x f) (hf : FmB f) (h3 : intBits n₁ ≤ 100000) :
  Ct w mean mg mb 233 2 news [.ref x, .int n₁ u1] (IsI (sideF f n₁)) := by
  unfold Ct
  k_fill
  intro dp un gd cn cs a ccd cl outer A₀ base h₀ L m s Q E B F X N T hk hd hu hret
  have hfm := hx
  have hfb := hf
  obtain ⟨dx, k1, k2, k3, k4, k5, k6, t1, t2, t3, t4, t5, t6, hx, hdx⟩ := hx
  obtain ⟨e0, e1, f0, f1, b0, b1, q0, q1, i0, i1, l0, l1⟩ := hf
  have hsf := span_rng hfb
  refine wpAny_call ?_
  k_dflt ktr_enter
  k_steps
  all_goals (refine endI hret ?eF ?eN ?eV; (case eF => k_asm); (case eN => (first | k_asm | exact drop1 (by k_asm) | exact drop2 (by k_asm) | exact drop3 (by k_asm))); (case eV => rfl))
theorem word33 : True := by
  k_with "call ref" => (k_here; (with_reducible show wpAny _ _ (call (Value.ref 233) _) _ _ _); k_dflt (refine' use_ct (c_side ?cx ?cf ?c0) ?gB ?gF ?gX ?gN ?gT ?gk ?gd ?gu ?_; (case gB => k_asm); (case gF => k_asm); (case gX => k_asm); (case gN => k_asm); (case gT => k_asm); (case gk => first | exact rfl | assumption); (case cx => first | assumption | exact FmIn.up1 (by assumption) | exact FmIn.up2 (by assumption) | exact FmIn.up3 (by assumption)); (case cf => assumption); (case c0 => ((with_reducible apply bitsLe); (bits_by_make); decide)); (case gd => ktr_room); (case gu => ktr_units)); intro v9 h9 tk9 hR9 F9 N9; (obtain ⟨t9, e9⟩ := hR9; subst e9); (try dsimp only); (try k_fold))
  trivial

set_option maxHeartbeats 8000000 in
theorem c_exact {w : World} {mean : ExcName → Option Value} {mg mb : Str → Option Value} {news : List (Addr × Obj)} {x : Addr} {f : Fm} {n₁ : Int} {u1 : Tok}
  (hx : FmIn w news x f) (hf : FmB f) (h3 : intBits n₁ ≤ 100000) :
  Ct w mean mg mb 240 2 news [.ref x, .int n₁ u1] (fun v => IsI (exactF f n₁) v ∧ (0 ≤ exactF f n₁ ∧ intBits (exactF f n₁) ≤ 400)) := by
  unfold Ct
  k_fill
  intro dp un gd cn cs a ccd cl outer A₀ base h₀ L m s Q E B F X N T hk hd hu hret
  have hfm := hx
  have hfb := hf
  obtain ⟨dx, k1, k2, k3, k4, k5, k6, t1, t2, t3, t4, t5, t6, hx, hdx⟩ := hx
  obtain ⟨e0, e1, f0, f1, b0, b1, q0, q1, i0, i1, l0, l1⟩ := hf
  have hsf := span_rng hfb
  have hfm1 := fm_rng hfb n₁
  refine wpAny_call ?_
  k_dflt ktr_enter
  k_steps
  all_goals (refine endP hret ?eF ?eN ?eV ?eP; (case eF => k_asm); (case eN => (first | k_asm | exact drop1 (by k_asm) | exact drop2 (by k_asm) | exact drop3 (by k_asm))); (case eV => rfl); (case eP => exact ⟨size_nonneg hfb hfm1.1, size_bits hfb hfm1.1 hfm1.2⟩))
theorem word34 : True := by
  k_with "call ref" => (k_here; (with_reducible show wpAny _ _ (call (Value.ref 240) _) _ _ _); k_dflt (refine' use_ct (c_exact ?cx ?cf ?c0) ?gB ?gF ?gX ?gN ?gT ?gk ?gd ?gu ?_; (case gB => k_asm); (case gF => k_asm); (case gX => k_asm); (case gN => k_asm); (case gT => k_asm); (case gk => first | exact rfl | assumption); (case cx => first | assumption | exact FmIn.up1 (by assumption) | exact FmIn.up2 (by assumption) | exact FmIn.up3 (by assumption)); (case cf => assumption); (case c0 => ((with_reducible apply bitsLe); (bits_by_make); decide)); (case gd => ktr_room); (case gu => ktr_units)); intro v9 h9 tk9 hR9 F9 N9; (obtain ⟨⟨t9, e9⟩, hP9a, hP9b⟩ := hR9; subst e9); (try dsimp only); (try k_fold))
  trivial

set_option maxHeartbeats 8000000 in
theorem c_fits {w : World} {mean : ExcName → Option Value} {mg mb : Str → Option Value} {news : List (Addr × Obj)} {x : Addr} {f : Fm} {n₁ sd ov un₁ : Int} {u1 u2 u3 u4 : Tok}
  (hx : FmIn w news x f) (hf : FmB f) (h3 : intBits n₁ ≤ 100000) (h4 : intBits sd ≤ 100000) (h5 : intBits ov ≤ 5000) (h6 : intBits un₁ ≤ 5000) :
  Ct w mean mg mb 247 3 news [.ref x, .int n₁ u1, .int sd u2, .int ov u3, .int un₁ u4] (IsB (fitsF f n₁ sd ov un₁)) := by
  unfold Ct
  k_fill
  intro dp un gd cn cs a ccd cl outer A₀ base h₀ L m s Q E B F X N T hk hd hu hret
  have hfm := hx
  have hfb := hf
  obtain ⟨dx, k1, k2, k3, k4, k5, k6, t1, t2, t3, t4, t5, t6, hx, hdx⟩ := hx
  obtain ⟨e0, e1, f0, f1, b0, b1, q0, q1, i0, i1, l0, l1⟩ := hf
  have hsf := span_rng hfb
  have hfm1 := fm_rng hfb n₁
  have hst := top_rng hfb
  refine wpAny_call ?_
  k_dflt ktr_enter
  k_steps
  all_goals (refine endB hret ?eF ?eN ?eV; (case eF => k_asm); (case eN => (first | k_asm | exact drop1 (by k_asm) | exact drop2 (by k_asm) | exact drop3 (by k_asm))); (case eV => (refine Eq.symm ?_); (unfold fitsF okF gapF absI); (repeat (first | (with_reducible refine (if_pos (by first | with_reducible assumption | omega | exact Bool.eq_false_iff.mp (by with_reducible assumption))).trans ?_) | (with_reducible refine (if_neg (by first | with_reducible assumption | omega | exact Bool.eq_false_iff.mp (by with_reducible assumption))).trans ?_))); rfl))
theorem word35 : True := by
  k_with "call ref" => (k_here; (with_reducible show wpAny _ _ (call (Value.ref 247) _) _ _ _); k_dflt (refine' use_ct (c_fits ?cx ?cf ?c0 ?c1 ?c2 ?c3) ?gB ?gF ?gX ?gN ?gT ?gk ?gd ?gu ?_; (case gB => k_asm); (case gF => k_asm); (case gX => k_asm); (case gN => k_asm); (case gT => k_asm); (case gk => first | exact rfl | assumption); (case cx => first | assumption | exact FmIn.up1 (by assumption) | exact FmIn.up2 (by assumption) | exact FmIn.up3 (by assumption)); (case cf => assumption); (case c0 => ((with_reducible apply bitsLe); (bits_by_make); decide)); (case c1 => ((with_reducible apply bitsLe); (bits_by_make); decide)); (case c2 => ((with_reducible apply bitsLe); (bits_by_make); decide)); (case c3 => ((with_reducible apply bitsLe); (bits_by_make); decide)); (case gd => ktr_room); (case gu => ktr_units)); intro v9 h9 tk9 hR9 F9 N9; (unfold IsB at hR9; subst hR9); (try dsimp only); (try k_fold))
  trivial

set_option maxHeartbeats 8000000 in
theorem c_sumr {w : World} {mean : ExcName → Option Value} {mg mb : Str → Option Value} {news : List (Addr × Obj)} {x : Addr} {f : Fm} {a₁ b fo : Int} {u1 u2 u3 : Tok}
  (hx : FmIn w news x f) (hf : FmB f) (ha0 : 0 ≤ a₁) (ha1 : a₁ ≤ 4294967295) (hb0 : 0 ≤ b) (hb1 : b ≤ 4294967295) (h3 : intBits fo ≤ 100000) :
  Ct w mean mg mb 254 4 news [.ref x, .int a₁ u1, .int b u2, .int fo u3] (IsB (sumR f a₁ b fo)) := by
  unfold Ct
  k_fill
  intro dp un gd cn cs a ccd cl outer A₀ base h₀ L m s Q E B F X N T hk hd hu hret
  have hfm := hx
  have hfb := hf
  obtain ⟨dx, k1, k2, k3, k4, k5, k6, t1, t2, t3, t4, t5, t6, hx, hdx⟩ := hx
  obtain ⟨e0, e1, f0, f1, b0, b1, q0, q1, i0, i1, l0, l1⟩ := hf
  have hsa := side_rng hfb ha0 ha1
  have hsb := side_rng hfb hb0 hb1
  have sx1 := sgx_bits hfb a₁
  have sx2 := sgx_bits hfb b
  k_with "eval IfExp" => ((with_reducible show wpAny _ _ (eval (Expr.IfExp (Expr.Compare (Expr.Call (Expr.Name (Str.ofString "_law_side") _) [_, Expr.Name (Str.ofString "a") _] _ _) _ _ _) _ _ _) _) _ _ _); (fail_if_success (with_reducible show wpAny _ _ _ (CutV _ _ _ _ _ _) _ _)); k_dflt (refine cut_v (sgx f a₁) (by k_asm) (by k_asm) ?_ ?_); rotate_left; (intro t9 h9 tk9 F9 N9); (try dsimp only); (try k_fold))
  k_with "eval IfExp" => ((with_reducible show wpAny _ _ (eval (Expr.IfExp (Expr.Compare (Expr.Call (Expr.Name (Str.ofString "_law_side") _) [_, Expr.Name (Str.ofString "b") _] _ _) _ _ _) _ _ _) _) _ _ _); (fail_if_success (with_reducible show wpAny _ _ _ (CutV _ _ _ _ _ _) _ _)); k_dflt (refine cut_v (sgx f b) (by k_asm) (by k_asm) ?_ ?_); rotate_left; (intro t9 h9 tk9 F9 N9); (try dsimp only); (try k_fold))
  k_with "eval IfExp" => ((with_reducible show wpAny _ _ (eval (Expr.IfExp (Expr.Compare (Expr.Name (Str.ofString "total") _) _ _ _) _ _ _) _) _ _ _); (fail_if_success (with_reducible show wpAny _ _ _ (CutV _ _ _ _ _ _) _ _)); k_dflt (refine cut_v (if sgx f a₁ + sgx f b < 0 then 1 else 0) (by k_asm) (by k_asm) ?_ ?_); rotate_left; (intro t9 h9 tk9 F9 N9); (try dsimp only); (try k_fold))
  k_with "exec If" => ((with_reducible show wpAny _ _ (exec (Stmt.If (Expr.Compare (Expr.Name (Str.ofString "total") _) _ _ _) _ _ _) _) _ _ _); (fail_if_success (with_reducible show wpAny _ _ _ (CutS _ _ _ _ _ _ _) _ _)); k_dflt (refine cut_s (Str.ofString "side") (if sgx f a₁ + sgx f b = 0 then sideF f a₁ * sideF f b else if sgx f a₁ + sgx f b < 0 then 1 else 0) (by k_asm) (by k_asm) ?_ ?_); rotate_left; (intro t9 h9 tk9 F9 N9); (try dsimp only); (try k_fold))
  refine wpAny_call ?_
  k_dflt ktr_enter
  k_steps
  all_goals (first | (refine cut_v_end (by k_asm) (by k_asm) ?_; first | (unfold sgx; exact join_eq (by assumption)) | ((refine Eq.symm ?_); (unfold sgx); (repeat (first | (with_reducible refine (if_pos (by first | with_reducible assumption | omega | exact Bool.eq_false_iff.mp (by with_reducible assumption))).trans ?_) | (with_reducible refine (if_neg (by first | with_reducible assumption | omega | exact Bool.eq_false_iff.mp (by with_reducible assumption))).trans ?_))); rfl) | ((refine Eq.symm ?_); (repeat (first | (with_reducible refine (if_pos (by first | with_reducible assumption | omega | exact Bool.eq_false_iff.mp (by with_reducible assumption))).trans ?_) | (with_reducible refine (if_neg (by first | with_reducible assumption | omega | exact Bool.eq_false_iff.mp (by with_reducible assumption))).trans ?_))); rfl)) | (refine cut_s_end (by k_asm) (by k_asm) (by first | exact if_pos rfl | exact (if_neg (by decide)).trans (if_pos rfl)) (by intro y hy; first | rfl | simp only [if_neg hy]) ?_; first | exact join_eq (by assumption) | ((refine Eq.symm ?_); (repeat (first | (with_reducible refine (if_pos (by first | with_reducible assumption | omega | exact Bool.eq_false_iff.mp (by with_reducible assumption))).trans ?_) | (with_reducible refine (if_neg (by first | with_reducible assumption | omega | exact Bool.eq_false_iff.mp (by with_reducible assumption))).trans ?_))); rfl)) | (refine endB hret ?eF ?eN ?eV; (case eF => k_asm); (case eN => (first | k_asm | exact drop1 (by k_asm) | exact drop2 (by k_asm) | exact drop3 (by k_asm))); (case eV => (refine Eq.symm ?_); (unfold sumR sumTail absI); (repeat (first | (with_reducible refine (if_pos (by first | with_reducible assumption | omega | exact Bool.eq_false_iff.mp (by with_reducible assumption))).trans ?_) | (with_reducible refine (if_neg (by first | with_reducible assumption | omega | exact Bool.eq_false_iff.mp (by with_reducible assumption))).trans ?_))); rfl)))
theorem word36 : True := by
  k_with "call ref" => (k_here; (with_reducible show wpAny _ _ (call (Value.ref 254) _) _ _ _); k_dflt (refine' use_ct (c_sumr ?cx ?cf ?c0 ?c1 ?c2 ?c3 ?c4) ?gB ?gF ?gX ?gN ?gT ?gk ?gd ?gu ?_; (case gB => k_asm); (case gF => k_asm); (case gX => k_asm); (case gN => k_asm); (case gT => k_asm); (case gk => first | exact rfl | assumption); (case cx => first | assumption | exact FmIn.up1 (by assumption) | exact FmIn.up2 (by assumption) | exact FmIn.up3 (by assumption)); (case cf => assumption); (case c0 => first | assumption | omega); (case c1 => first | assumption | omega); (case c2 => first | assumption | omega); (case c3 => first | assumption | omega); (case c4 => ((with_reducible apply bitsLe); (bits_by_make); decide)); (case gd => ktr_room); (case gu => ktr_units)); intro v9 h9 tk9 hR9 F9 N9; (unfold IsB at hR9; subst hR9); (try dsimp only); (try k_fold))
  trivial

set_option maxHeartbeats 8000000 in
theorem c_prodr {w : World} {mean : ExcName → Option Value} {mg mb : Str → Option Value} {news : List (Addr × Obj)} {x : Addr} {f : Fm} {a₁ b fo : Int} {u1 u2 u3 : Tok}
  (hx : FmIn w news x f) (hf : FmB f) (ha0 : 0 ≤ a₁) (ha1 : a₁ ≤ 4294967295) (hb0 : 0 ≤ b) (hb1 : b ≤ 4294967295) (h3 : intBits fo ≤ 100000) :
  Ct w mean mg mb 261 4 news [.ref x, .int a₁ u1, .int b u2, .int fo u3] (IsB (prodR f a₁ b fo)) := by
  unfold Ct
  k_fill
  intro dp un gd cn cs a ccd cl outer A₀ base h₀ L m s Q E B F X N T hk hd hu hret
  have hfm := hx
  have hfb := hf
  obtain ⟨dx, k1, k2, k3, k4, k5, k6, t1, t2, t3, t4, t5, t6, hx, hdx⟩ := hx
  obtain ⟨e0, e1, f0, f1, b0, b1, q0, q1, i0, i1, l0, l1⟩ := hf
  have hsa := side_rng hfb ha0 ha1
  have hsb := side_rng hfb hb0 hb1
  refine wpAny_call ?_
  k_dflt ktr_enter
  k_steps
  all_goals (refine endB hret ?eF ?eN ?eV; (case eF => k_asm); (case eN => (first | k_asm | exact drop1 (by k_asm) | exact drop2 (by k_asm) | exact drop3 (by k_asm))); (case eV => (refine Eq.symm ?_); (unfold prodR infA infB sdF); (repeat (first | (with_reducible refine (if_pos (by first | with_reducible assumption | omega | exact Bool.eq_false_iff.mp (by with_reducible assumption))).trans ?_) | (with_reducible refine (if_neg (by first | with_reducible assumption | omega | exact Bool.eq_false_iff.mp (by with_reducible assumption))).trans ?_))); rfl))
theorem word37 : True := by
  k_with "call ref" => (k_here; (with_reducible show wpAny _ _ (call (Value.ref 261) _) _ _ _); k_dflt (refine' use_ct (c_prodr ?cx ?cf ?c0 ?c1 ?c2 ?c3 ?c4) ?gB ?gF ?gX ?gN ?gT ?gk ?gd ?gu ?_; (case gB => k_asm); (case gF => k_asm); (case gX => k_asm); (case gN => k_asm); (case gT => k_asm); (case gk => first | exact rfl | assumption); (case cx => first | assumption | exact FmIn.up1 (by assumption) | exact FmIn.up2 (by assumption) | exact FmIn.up3 (by assumption)); (case cf => assumption); (case c0 => first | assumption | omega); (case c1 => first | assumption | omega); (case c2 => first | assumption | omega); (case c3 => first | assumption | omega); (case c4 => ((with_reducible apply bitsLe); (bits_by_make); decide)); (case gd => ktr_room); (case gu => ktr_units)); intro v9 h9 tk9 hR9 F9 N9; (unfold IsB at hR9; subst hR9); (try dsimp only); (try k_fold))
  trivial

set_option maxHeartbeats 8000000 in
theorem c_quor {w : World} {mean : ExcName → Option Value} {mg mb : Str → Option Value} {news : List (Addr × Obj)} {x : Addr} {f : Fm} {a₁ b fo : Int} {u1 u2 u3 : Tok}
  (hx : FmIn w news x f) (hf : FmB f) (ha0 : 0 ≤ a₁) (ha1 : a₁ ≤ 4294967295) (hb0 : 0 ≤ b) (hb1 : b ≤ 4294967295) (h3 : intBits fo ≤ 100000) :
  Ct w mean mg mb 268 4 news [.ref x, .int a₁ u1, .int b u2, .int fo u3] (IsB (quoR f a₁ b fo)) := by
  unfold Ct
  k_fill
  intro dp un gd cn cs a ccd cl outer A₀ base h₀ L m s Q E B F X N T hk hd hu hret
  have hfm := hx
  have hfb := hf
  obtain ⟨dx, k1, k2, k3, k4, k5, k6, t1, t2, t3, t4, t5, t6, hx, hdx⟩ := hx
  obtain ⟨e0, e1, f0, f1, b0, b1, q0, q1, i0, i1, l0, l1⟩ := hf
  have hsa := side_rng hfb ha0 ha1
  have hsb := side_rng hfb hb0 hb1
  refine wpAny_call ?_
  k_dflt ktr_enter
  k_steps
  all_goals (refine endB hret ?eF ?eN ?eV; (case eF => k_asm); (case eN => (first | k_asm | exact drop1 (by k_asm) | exact drop2 (by k_asm) | exact drop3 (by k_asm))); (case eV => (refine Eq.symm ?_); (unfold quoR sdF); (repeat (first | (with_reducible refine (if_pos (by first | with_reducible assumption | omega | exact Bool.eq_false_iff.mp (by with_reducible assumption))).trans ?_) | (with_reducible refine (if_neg (by first | with_reducible assumption | omega | exact Bool.eq_false_iff.mp (by with_reducible assumption))).trans ?_))); rfl))
theorem word38 : True := by
  k_with "call ref" => (k_here; (with_reducible show wpAny _ _ (call (Value.ref 268) _) _ _ _); k_dflt (refine' use_ct (c_quor ?cx ?cf ?c0 ?c1 ?c2 ?c3 ?c4) ?gB ?gF ?gX ?gN ?gT ?gk ?gd ?gu ?_; (case gB => k_asm); (case gF => k_asm); (case gX => k_asm); (case gN => k_asm); (case gT => k_asm); (case gk => first | exact rfl | assumption); (case cx => first | assumption | exact FmIn.up1 (by assumption) | exact FmIn.up2 (by assumption) | exact FmIn.up3 (by assumption)); (case cf => assumption); (case c0 => first | assumption | omega); (case c1 => first | assumption | omega); (case c2 => first | assumption | omega); (case c3 => first | assumption | omega); (case c4 => ((with_reducible apply bitsLe); (bits_by_make); decide)); (case gd => ktr_room); (case gu => ktr_units)); intro v9 h9 tk9 hR9 F9 N9; (unfold IsB at hR9; subst hR9); (try dsimp only); (try k_fold))
  trivial

local macro_rules | `(tactic| k_upd) => `(tactic| (refine' Upd.head ?a; (case a => assumption)))
local macro_rules | `(tactic| walk_at "call builtin:len") => `(tactic| k_extra "call builtin:len")
theorem word39 : True := by
  k_with "call builtin:len" => (k_here; (with_reducible show wpAny _ _ (call (Value.builtin "len") [Value.ref _]) _ _ _); k_dflt (refine' kst_len ?k1 ?k2 ?k3 ?k4 ?_; (case k1 => k_asm); (case k2 => k_mem); (case k3 => exact IntsAre.length (by assumption)); (case k4 => omega); k_whole))
  trivial
theorem word40 : True := by
  k_with "binaryOp Mod int int" => (k_here; (with_reducible refine mod_int' ?kbe ?_); (case kbe => (with_reducible refine len_ne ?_); assumption))
  trivial
local macro_rules | `(tactic| walk_at "subscriptTail Subscript") => `(tactic| k_extra "subscriptTail Subscript")
theorem word41 : True := by
  k_with "subscriptTail Subscript" => (k_here; (with_reducible show wpAny _ _ (subscriptTail _ _ (Value.ref _) (Value.int (Int.fmod _ _) _)) _ _ _); k_dflt (refine' my_item ?k1 ?k2 ?k3 ?k4 ?k5 ?k6 ?_ ?k7; (case k1 => k_asm); (case k2 => k_mem); (case k3 => assumption); (case k4 => exact (mod_len (by assumption)).1); (case k5 => exact (mod_len (by assumption)).2); (case k6 => assumption); (case k7 => with_unfolding_all rfl)); intro x9 t9 hx9)
  trivial

set_option maxHeartbeats 8000000 in
theorem c_pull {w : World} {mean : ExcName → Option Value} {mg mb : Str → Option Value} {news : List (Addr × Obj)} {W S : Addr} {ws : List Value} {ns : List Int} {a b lim : Int} {t1 t2 u1 : Tok}
  (hs : WellS news S ws ns) (hW : ∀ p ∈ news, p.1 ≠ W) (ha : intBits a ≤ 300) (hb0 : 0 ≤ b) (hb1 : b ≤ 1000000) (hl0 : 1 ≤ lim) (hl1 : lim ≤ 4096) :
  CtW w mean mg mb 191 1 W S a t1 b t2 news [.ref W, .int lim u1] (fun v a' b' => ∃ r t, v = .int r t ∧ 0 ≤ r ∧ r < lim ∧ intBits a' ≤ 300 ∧ 0 ≤ b' ∧ b' ≤ b + 1) := by
  unfold CtW
  k_fill
  intro dp un gd cn cs ad ccd cl outer A₀ base h₀ L m s Q E B F X N T hk hd hu hret
  obtain ⟨hmem, hints, hlo, hhi, hbits⟩ := hs
  refine wpAny_call ?_
  k_dflt ktr_enter
  k_steps
  all_goals (refine' endW hret ?eF ?eN ?eR; (case eF => k_asm); (case eN => k_asm); (case eR => exact ⟨_, _, rfl, (fmod_range _ (by omega)).1, (fmod_range _ (by omega)).2, (by first | exact wb_mod _ _ ten66.1 ten66.2 | exact wb_mod _ _ big62.1 big62.2 | exact PySem.intBits_fdiv_le ha), (by omega), (by omega)⟩))
local macro_rules | `(tactic| walk_at "exec For Name Call cons nil") => `(tactic| k_extra "exec For Name Call cons nil")
theorem word42 : True := by
  k_with "exec For Name Call cons nil" => (k_here; (rename Fr _ _ _ _ => lF'); (with_unfolding_all refine' For_invVF lF' ?k1 ?k2 ?_; (case k1 => exact rfl); (case k2 => exact rfl); k_whole))
  trivial
theorem word43 : True := by
  k_with "call ref" => (k_here; (with_reducible show wpAny _ _ (call (Value.ref 191) _) _ _ _); k_dflt (refine' use_ctW (c_pull ?c0 ?c1 ?c2 ?c3 ?c4 ?c5 ?c6) ?gB ?gF ?gX ?gN ?gT ?gk ?gd ?gu ?_; (case gB => k_asm); (case gF => k_asm); (case gX => k_asm); (case gN => k_asm); (case gT => k_asm); (case gk => first | exact rfl | assumption); (case c0 => assumption); (case c1 => assumption); (case c2 => assumption); (case c3 => first | assumption | omega); (case c4 => first | assumption | omega); (case c5 => first | assumption | omega); (case c6 => first | assumption | omega); (case gd => ktr_room); (case gu => ktr_units)); intro v9 a9 t91 b9 t92 h9 tk9 hR9 F9 N9; (obtain ⟨r9, t9, e9, q91, q92, q93, q94, q95⟩ := hR9; subst e9); (try dsimp only); (try k_fold))
  trivial

local macro_rules | `(tactic| walk_at "InvEndN") => `(tactic| k_extra "InvEndN")
set_option maxHeartbeats 8000000 in
theorem c_lbits {w : World} {mean : ExcName → Option Value} {mg mb : Str → Option Value} {news : List (Addr × Obj)} {W S : Addr} {ws : List Value} {ns : List Int} {a b lim : Int} {t1 t2 u1 : Tok}
  (hs : WellS news S ws ns) (hW : ∀ p ∈ news, p.1 ≠ W) (ha : intBits a ≤ 300) (hb0 : 0 ≤ b) (hb1 : b ≤ 900000) (hl0 : 1 ≤ lim) (hl1 : lim ≤ 8589934592) :
  CtW w mean mg mb 198 2 W S a t1 b t2 news [.ref W, .int lim u1] (fun v a' b' => ∃ r t, v = .int r t ∧ 0 ≤ r ∧ r < lim ∧ intBits a' ≤ 300 ∧ 0 ≤ b' ∧ b' ≤ b + 4) := by
  unfold CtW
  k_fill
  intro dp un gd cn cs ad ccd cl outer A₀ base h₀ L m s Q E B F X N T hk hd hu hret
  k_with "pyIter ref" => ((with_reducible show wpAny _ _ (pyIter (Value.ref _)) (fun it s₂ => LoopAtV _ _ _ _ _ _ _ _ _ it s₂) _ _); (rename Fr _ _ _ _ => lF'); (rename News _ _ _ _ => lN'); (rename IsRange _ _ _ _ _ _ _ _ => rgX); k_dflt ((with_unfolding_all refine' kst_range (n := 4) (ledB W S news) psB (fun _ => True) [] (PB b) ⟨a, t1, b, t2, 0, ?tx⟩ (by rfl) rgX (by decide) (by rfl) lF' lN' trivial ?kk (pb_start ha hb0) ?turn ?done); (case kk => (intro p hp; rw [List.mem_singleton.mp hp]; with_unfolding_all rfl)); (case' turn => (clear lF' lN'; intro c9 pre9 k9 tk9 u9 h9 tk9' own9 e1 e2 hoff _ hP F9 N9; (have N10 : News _ _ _ ((W, wob c9.a c9.t1 c9.b c9.t2 S) :: (news ++ own9)) := N9); clear N9; (have hs' := hs.app own9); (have hW' := app_ne hW hoff); (have hx3 := pb_small hP e2); (have hP' := hP); obtain ⟨p1, p2, p3, p4, _⟩ := hP'; dsimp only [psB, kstB] at F9)); (case' done => (clear lF' lN'; intro c9 u9 h9 tk9 _ hP F9 N9; (have N10 : News _ _ _ ((W, wob c9.a c9.t1 c9.b c9.t2 S) :: news) := N9); clear N9; obtain ⟨p1, p2, p3, p4, p5⟩ := pb_done hP; dsimp only [psB, kstB] at F9))))
  k_with "InvEndN" => k_dflt exact bits_end (by k_asm) (by k_asm) (by with_unfolding_all rfl) (by intro z h1 h2; simp [h1, h2]) (pb_turn (by assumption) (by assumption) (by assumption) (by assumption) (by assumption) (by assumption))
  refine wpAny_call ?_
  k_dflt ktr_enter
  k_steps
  all_goals (refine' endW hret ?eF ?eN ?eR; (case eF => k_asm); (case eN => k_asm); (case eR => exact ⟨_, _, rfl, (fmod_range _ (by omega)).1, (fmod_range _ (by omega)).2, by assumption, by omega, by omega⟩))

local macro_rules | `(tactic| k_all) => `(tactic| exact below_ne (by assumption))
set_option maxHeartbeats 8000000 in
theorem c_form {w : World} {mean : ExcName → Option Value} {mg mb : Str → Option Value} {news : List (Addr × Obj)} {e fr : Int} {u1 u2 : Tok}
  (he0 : 2 ≤ e) (he1 : e ≤ 8) (hf0 : 1 ≤ fr) (hf1 : fr ≤ 23) :
  CtF w mean mg mb 31 2 news [.int e u1, .int fr u2] (mkF e fr) := by
  unfold CtF
  k_fill
  intro dp un gd cn cs ad ccd cl outer A₀ base h₀ L m s Q E B F X N T hk hd hu hret
  have hMk := kstMark
  k_dflt (refine' call_cls ?k1 ?k2 ?k3 ?k4 ?k5 ?k6 ?_; (case k1 => k_asm); (case k2 => k_asm); (case k3 => k_asm); (case k4 => k_is); (case k5 => k_is); (case k6 => k_is); k_whole; intro x' d' h' F' N' l1 l2; (try k_lt2 l2); ktr_enter)
  k_steps
  all_goals (exact form_end hret (by k_asm) (by k_asm) (by assumption) (by assumption))

theorem FmIn.law {w : World} {x dx W : Addr} {o1 o2 o : Obj} {f : Fm} {tl : List (Addr × Obj)} (h : FmIn w [(x, o1), (dx, o2)] x f) : FmIn w ((W, o) :: (x, o1) :: (dx, o2) :: tl) x f :=
  h.more fun p hp => by
    rcases List.mem_cons.mp hp with rfl | hp
    · exact .tail _ (.head _)
    · rw [List.mem_singleton.mp hp]
      exact .tail _ (.tail _ (.head _))
section
variable {w : World} {mean : ExcName → Option Value} {mg mb : Str → Option Value} {W S : Addr} {a : Int} {t1 : Tok} {b : Int} {t2 : Tok} {tl : List (Addr × Obj)} {ws : List Value} {ns : List Int}
  {dp un : Nat} {gd : Option (List Code)} {cn : Str} {cs : Scope} {ad : Addr} {ccd : Value} {cl : List (Str × Addr)} {outer : List Env} {A₀ : Around} {base h₀ : Heap} {L : Addr} {m : Str → Option Value} {s : Shared} {Q E : Value → Shared → Prop}
theorem use_form {e fr : Int} {u1 u2 : Tok} (hs : WellS tl S ws ns) (hW : ∀ p ∈ tl, p.1 ≠ W) (he0 : 2 ≤ e) (he1 : e ≤ 8) (hf0 : 1 ≤ fr) (hf1 : fr ≤ 23)
    (B : Below A₀ base outer h₀) (F : Fr h₀ L s.heap m) (X : (Mine.hd.heap_39 w.params).In h₀) (N : News h₀ L s.heap ((W, wob a t1 b t2 S) :: tl)) (T : Top VW LO mean mg mb h₀) (hk : cs.kind = .function)
    (hd : dp + 2 < recursionLimit) (hu : un + 8 * 2 < cLine)
    (ret : ∀ (f : Fm) (x dx : Addr) (o1 o2 : Obj) (h' : Heap) (tk' : Nat), FmX f → FmB f → 8 ≤ spanF f ∧ spanF f ≤ 2147483648 → FmIn w [(x, o1), (dx, o2)] x f → WellS ((x, o1) :: (dx, o2) :: tl) S ws ns → (∀ p ∈ (x, o1) :: (dx, o2) :: tl, p.1 ≠ W) →
      Fr h₀ L h' m → News h₀ L h' ((W, wob a t1 b t2 S) :: (x, o1) :: (dx, o2) :: tl) → Q (.ref x) { s with heap := h', toks := tk' }) :
    wpAny (model PySem.Challenge.rw_pb0330_01.row.prog w) (ktrTop dp un gd cn cs L ad ccd cl outer) (call (.ref 31) [.int e u1, .int fr u2]) Q E s := by
  refine c_form he0 he1 hf0 hf1 _ _ _ _ _ _ _ _ _ _ _ _ _ _ _ _ _ B F X N T hk hd hu fun x dx o1 o2 h' tk' hx hn F' N' => ?_
  have hX := mkF_X he0 he1 hf0 hf1
  have hw := hn _ (.head _)
  refine ret _ x dx o1 o2 h' tk' hX hX.b (span_rng hX.b) hx ((hs.up _).up _) (fun p hp => ?_) F' (fun p hp => ?_)
  · rcases List.mem_cons.mp hp with rfl | hp
    · exact fun e => hw.1 e.symm
    · rcases List.mem_cons.mp hp with rfl | hp
      · exact fun e => hw.2 e.symm
      · exact hW p hp
  · rcases List.mem_cons.mp hp with rfl | hp
    · exact N' _ (.tail _ (.tail _ (.head _)))
    · rcases List.mem_cons.mp hp with rfl | hp
      · exact N' _ (.head _)
      · rcases List.mem_cons.mp hp with rfl | hp
        · exact N' _ (.tail _ (.head _))
        · exact N' _ (.tail _ (.tail _ (.tail _ hp)))
end

section
variable {w : World} {mean : ExcName → Option Value} {mg mb : Str → Option Value} {news : List (Addr × Obj)} {x : Addr} {f : Fm} {a₁ b : Int} {u1 u2 u3 : Tok}
theorem Ct.imp {g : Addr} {d : Nat} {vs : List Value} {R R' : Value → Prop} (C : Ct w mean mg mb g d news vs R) (h : ∀ v, R v → R' v) : Ct w mean mg mb g d news vs R' :=
  fun _ _ _ _ _ _ _ _ _ _ _ _ _ _ _ _ _ B F X N T hk hd hu ret => C _ _ _ _ _ _ _ _ _ _ _ _ _ _ _ _ _ B F X N T hk hd hu fun v h' tk' r => ret v h' tk' (h v r)
theorem up32 (hX : FmX f) {b : Int} (h1 : b < 2 * spanF f) : b ≤ 4294967295 := by
  have := span_rng hX.b
  omega
theorem c_neg_t (hx : FmIn w news x f) (hf : FmB f) (hX : FmX f) (b0 : 0 ≤ b) (b1 : b < 2 * spanF f) : Ct w mean mg mb 134 3 news [.ref x, .int b u1] (IsI (negF f b)) := c_neg hx hf b0 (up32 hX b1)
theorem c_abs_t (hx : FmIn w news x f) (hf : FmB f) (hX : FmX f) (b0 : 0 ≤ b) (b1 : b < 2 * spanF f) : Ct w mean mg mb 141 3 news [.ref x, .int b u1] (IsI (absF f b)) := c_absr hx hf b0 (up32 hX b1)
theorem c_add_t (hx : FmIn w news x f) (hf : FmB f) (hX : FmX f) (a0 : 0 ≤ a₁) (a1 : a₁ < 2 * spanF f) (b0 : 0 ≤ b) (b1 : b < 2 * spanF f) : Ct w mean mg mb 155 5 news [.ref x, .int a₁ u1, .int b u2] (IsI (addF f a₁ b)) := c_add hx hf a0 (up32 hX a1) b0 (up32 hX b1)
theorem c_sub_t (hx : FmIn w news x f) (hf : FmB f) (hX : FmX f) (a0 : 0 ≤ a₁) (a1 : a₁ < 2 * spanF f) (b0 : 0 ≤ b) (b1 : b < 2 * spanF f) : Ct w mean mg mb 162 6 news [.ref x, .int a₁ u1, .int b u2] (IsI (addF f a₁ (negF f b))) :=
  c_sub hx hf a0 (up32 hX a1) b0 (up32 hX b1) (neg_rng hX b0 b1).1 (up32 hX (neg_rng hX b0 b1).2)
theorem c_mul_t (hx : FmIn w news x f) (hf : FmB f) (hX : FmX f) (a0 : 0 ≤ a₁) (a1 : a₁ < 2 * spanF f) (b0 : 0 ≤ b) (b1 : b < 2 * spanF f) : Ct w mean mg mb 169 4 news [.ref x, .int a₁ u1, .int b u2] (IsI (mulF f a₁ b)) := c_mul hx hf a0 (up32 hX a1) b0 (up32 hX b1)
theorem c_div_t (hx : FmIn w news x f) (hf : FmB f) (hX : FmX f) (a0 : 0 ≤ a₁) (a1 : a₁ < 2 * spanF f) (b0 : 0 ≤ b) (b1 : b < 2 * spanF f) : Ct w mean mg mb 184 5 news [.ref x, .int a₁ u1, .int b u2] (IsI (divF f a₁ b)) := c_div hx hf a0 (up32 hX a1) b0 (up32 hX b1) (nz_ok hX b0 b1)
theorem isB_eq {p q : Bool} (h : p = q) (v : Value) (r : IsB p v) : IsB q v := h ▸ r
theorem c_sumr_t (hx : FmIn w news x f) (hf : FmB f) (hX : FmX f) (a0 : 0 ≤ a₁) (a1 : a₁ < 2 * spanF f) (b0 : 0 ≤ b) (b1 : b < 2 * spanF f) : Ct w mean mg mb 254 4 news [.ref x, .int a₁ u1, .int b u2, .int (addF f a₁ b) u3] (IsB true) :=
  (c_sumr hx hf a0 (up32 hX a1) b0 (up32 hX b1) (sum_ok hX a0 a1 b0 b1).2).imp (isB_eq (sum_ok hX a0 a1 b0 b1).1)
theorem c_prodr_t (hx : FmIn w news x f) (hf : FmB f) (hX : FmX f) (a0 : 0 ≤ a₁) (a1 : a₁ < 2 * spanF f) (b0 : 0 ≤ b) (b1 : b < 2 * spanF f) : Ct w mean mg mb 261 4 news [.ref x, .int a₁ u1, .int b u2, .int (mulF f a₁ b) u3] (IsB true) :=
  (c_prodr hx hf a0 (up32 hX a1) b0 (up32 hX b1) (prod_ok hX a0 a1 b0 b1).2).imp (isB_eq (prod_ok hX a0 a1 b0 b1).1)
theorem c_quor_t (hx : FmIn w news x f) (hf : FmB f) (hX : FmX f) (a0 : 0 ≤ a₁) (a1 : a₁ < 2 * spanF f) (b0 : 0 ≤ b) (b1 : b < 2 * spanF f) : Ct w mean mg mb 268 4 news [.ref x, .int a₁ u1, .int b u2, .int (divF f a₁ b) u3] (IsB true) :=
  (c_quor hx hf a0 (up32 hX a1) b0 (up32 hX b1) (quo_ok hX a0 a1 b0 b1).2).imp (isB_eq (quo_ok hX a0 a1 b0 b1).1)
end

section
variable {w : World} {mean : ExcName → Option Value} {mg mb : Str → Option Value} {f : Addr} {d : Nat} {news : List (Addr × Obj)} {vs : List Value}
  {dp un : Nat} {gd : Option (List Code)} {cn : Str} {cs : Scope} {a : Addr} {ccd : Value} {cl : List (Str × Addr)} {outer : List Env} {A₀ : Around} {base h₀ : Heap} {L : Addr} {m : Str → Option Value} {s : Shared} {Q E : Value → Shared → Prop}
theorem use_ctI {x : Int} (C : Ct w mean mg mb f d news vs (IsI x)) (B : Below A₀ base outer h₀) (F : Fr h₀ L s.heap m) (X : (Mine.hd.heap_39 w.params).In h₀) (N : News h₀ L s.heap news) (T : Top VW LO mean mg mb h₀) (hk : cs.kind = .function)
    (hd : dp + d < recursionLimit) (hu : un + 8 * d < cLine) (ret : ∀ (t : Tok) (h' : Heap) (tk' : Nat), Fr h₀ L h' m → News h₀ L h' news → Q (.int x t) { s with heap := h', toks := tk' }) :
    wpAny (model PySem.Challenge.rw_pb0330_01.row.prog w) (ktrTop dp un gd cn cs L a ccd cl outer) (call (.ref f) vs) Q E s :=
  C _ _ _ _ _ _ _ _ _ _ _ _ _ _ _ _ _ B F X N T hk hd hu fun v h' tk' ⟨t, e⟩ F' N' => by rw [e]; exact ret t h' tk' F' N'
theorem use_ctS {x : Str} (C : Ct w mean mg mb f d news vs (IsS x)) (B : Below A₀ base outer h₀) (F : Fr h₀ L s.heap m) (X : (Mine.hd.heap_39 w.params).In h₀) (N : News h₀ L s.heap news) (T : Top VW LO mean mg mb h₀) (hk : cs.kind = .function)
    (hd : dp + d < recursionLimit) (hu : un + 8 * d < cLine) (ret : ∀ (t : Tok) (h' : Heap) (tk' : Nat), Fr h₀ L h' m → News h₀ L h' news → Q (.str x t) { s with heap := h', toks := tk' }) :
    wpAny (model PySem.Challenge.rw_pb0330_01.row.prog w) (ktrTop dp un gd cn cs L a ccd cl outer) (call (.ref f) vs) Q E s :=
  C _ _ _ _ _ _ _ _ _ _ _ _ _ _ _ _ _ B F X N T hk hd hu fun v h' tk' ⟨t, e⟩ F' N' => by rw [e]; exact ret t h' tk' F' N'
theorem use_ctB {x : Bool} (C : Ct w mean mg mb f d news vs (IsB x)) (B : Below A₀ base outer h₀) (F : Fr h₀ L s.heap m) (X : (Mine.hd.heap_39 w.params).In h₀) (N : News h₀ L s.heap news) (T : Top VW LO mean mg mb h₀) (hk : cs.kind = .function)
    (hd : dp + d < recursionLimit) (hu : un + 8 * d < cLine) (ret : ∀ (h' : Heap) (tk' : Nat), Fr h₀ L h' m → News h₀ L h' news → Q (.bool x) { s with heap := h', toks := tk' }) :
    wpAny (model PySem.Challenge.rw_pb0330_01.row.prog w) (ktrTop dp un gd cn cs L a ccd cl outer) (call (.ref f) vs) Q E s :=
  C _ _ _ _ _ _ _ _ _ _ _ _ _ _ _ _ _ B F X N T hk hd hu fun v h' tk' e F' N' => by
    have e' : v = .bool x := e
    rw [e']; exact ret h' tk' F' N'
end

-- the law's loop
structure LSt where
  a : Int
  t1 : Tok
  b : Int
  t2 : Tok
def ledL (W S : Addr) (tl : List (Addr × Obj)) (c : LSt) : List (Addr × Obj) := (W, wob c.a c.t1 c.b c.t2 S) :: tl
def PL (pre : List Int) (c : LSt) : Prop := intBits c.a ≤ 300 ∧ 0 ≤ c.b ∧ c.b ≤ 20 * (pre.length : Int)
def storedL : List Str := [Str.ofString "form", Str.ofString "span", Str.ofString "a", Str.ofString "b", Str.ofString "flipped", Str.ofString "bare"]
theorem pl_start {t1 t2 : Tok} : PL [] ⟨0, t1, 0, t2⟩ := ⟨(by decide : intBits 0 ≤ 300), Int.le_refl 0, Int.le_refl 0⟩
theorem pl_turn {k a' b' : Int} {t1 t2 : Tok} {pre : List Int} {c : LSt} (h : PL pre c) (ha : intBits a' ≤ 300) (hb0 : 0 ≤ b') (hb1 : b' ≤ c.b + 20) : PL (pre ++ [k]) ⟨a', t1, b', t2⟩ := by
  obtain ⟨_, _, h3⟩ := h
  refine ⟨ha, hb0, ?_⟩
  show b' ≤ 20 * ((pre ++ [k]).length : Int)
  rw [List.length_append, List.length_cons, List.length_nil]
  omega
theorem law_end {h₀ h' : Heap} {L W S x dx : Addr} {m' m₀ : Str → Option Value} {tl own : List (Addr × Obj)} {s₁ : Shared} {tk : Nat} {a b : Int} {t1 t2 : Tok} {pre : List Int} {c₀ : LSt} {o1 o2 : Obj}
    (F : Fr h₀ L h' m') (N : News h₀ L h' ((W, wob a t1 b t2 S) :: (x, o1) :: (dx, o2) :: (tl ++ own))) (hr : ∀ z, z ≠ Str.ofString "turn" → storedL.contains z = false → m' z = m₀ z) (hp : PL pre ⟨a, t1, b, t2⟩) :
    InvEndN h₀ L (KstS (ledL W S tl) (fun _ => []) (fun _ => True) (Str.ofString "turn") storedL m₀ PL pre) own ((ledL W S tl c₀).map (·.1)) s₁ { s₁ with heap := h', toks := tk } :=
  kst_end ⟨a, t1, b, t2⟩ F N (fun p hp => by
    rcases List.mem_cons.mp hp with rfl | hp
    · exact .head _
    · exact .tail _ (.tail _ (.tail _ (List.mem_append.mpr (.inl hp))))) (fun p hp => .tail _ (.tail _ (.tail _ (List.mem_append.mpr (.inr hp))))) rfl trivial
    (fun p hp => (nomatch hp)) (fun z h1 _ h3 => hr z h1 h3) hp
theorem app_neL {W S : Addr} {tl own : List (Addr × Obj)} {c₀ : LSt} (hW : ∀ p ∈ tl, p.1 ≠ W) (ho : OwnOff own ((ledL W S tl c₀).map (·.1))) : ∀ p ∈ tl ++ own, p.1 ≠ W := fun p hp => by
  rcases List.mem_append.mp hp with hp | hp
  · exact hW p hp
  · exact ho p hp W (.head _)

theorem start_well {h₀ h : Heap} {L S : Addr} {q : Addr × Obj} {ws : List Value} {ns : List Int} {tl : List (Addr × Obj)} (_N : News h₀ L h (q :: (S, PySem.W.listOf ws.toArray 0) :: tl)) (hi : IntsAre ws (List.take 40 (ns ++ [0]))) (hlay : PyData.layable0 (.list (ns.map .int)) = true) :
    WellS ((S, PySem.W.listOf ws.toArray 0) :: tl) S ws (List.take 40 (ns ++ [0])) := by
  have hl : (List.take 40 (ns ++ [0])).length = min 40 (ns.length + 1) := by simp
  refine ⟨.head _, hi, by omega, by omega, fun x hx => ?_⟩
  rcases List.mem_append.mp (List.mem_of_mem_take hx) with h | h
  · exact Nat.le_trans (intBits_le_of_item h hlay) (by decide)
  · rw [List.mem_singleton.mp h]
    decide
theorem start_ne {h₀ h : Heap} {L W : Addr} {o : Obj} {tl : List (Addr × Obj)} (_N : News h₀ L h ((W, o) :: tl)) (h : ∀ p ∈ tl, p.1 ≠ W) : ∀ p ∈ tl, p.1 ≠ W := h
theorem my_mod {prog : Program} {w : World} {A : Around} {E : Value → Shared → Prop} {s : Shared} {a b : Int} {t u : Tok} {Q : Value → Shared → Prop} (hb : 0 < b) (h : ∀ z, z = a.fmod b → 0 ≤ z → z < b → Q (.int z s.toks) { s with toks := s.toks + 1 }) :
    wpAny (model prog w) A (binaryOp .Mod (.int a t) (.int b u)) Q E s :=
  mod_int' (by omega) (h _ rfl (fmod_range a hb).1 (fmod_range a hb).2)


-- cuts: what a branch leaves behind, told once
def CutI (s : Shared) (v : Value) (s' : Shared) : Prop := ∃ (l : Int) (t : Tok) (tk' : Nat), v = .int l t ∧ 1 ≤ l ∧ l ≤ 23 ∧ s' = { s with toks := tk' }
def CutB (h₀ : Heap) (L W S : Addr) (m₁ : Str → Option Value) (tl : List (Addr × Obj)) (top bb : Int) (s : Shared) (fl : Flow) (s' : Shared) : Prop :=
  ∃ (h' : Heap) (tk' : Nat) (b : Int) (tb : Tok) (a' : Int) (t1' : Tok) (b' : Int) (t2' : Tok), fl = .next ∧ s' = { s with heap := h', toks := tk' } ∧ 0 ≤ b ∧ b < top ∧ intBits a' ≤ 300 ∧ 0 ≤ b' ∧ b' ≤ bb + 3 ∧
    Fr h₀ L h' (fun y => if y = Str.ofString "b" then some (.int b tb) else m₁ y) ∧ News h₀ L h' ((W, wob a' t1' b' t2' S) :: tl)
def CutK (h₀ : Heap) (L : Addr) (m : Str → Option Value) (news : List (Addr × Obj)) (s : Shared) (fl : Flow) (s' : Shared) : Prop :=
  ∃ (h' : Heap) (tk' : Nat), fl = .next ∧ s' = { s with heap := h', toks := tk' } ∧ Fr h₀ L h' m ∧ News h₀ L h' news
section
variable {prog : Program} {w : World} {A : Around} {E : Value → Shared → Prop} {s : Shared} {h₀ h' : Heap} {L W S : Addr} {m m₁ : Str → Option Value} {tl news : List (Addr × Obj)}
theorem cut_i {T : Sem Value} {Q : Value → Shared → Prop} (h1 : wpAny (model prog w) A T (CutI s) E s) (h2 : ∀ (l : Int) (t : Tok) (tk' : Nat), 1 ≤ l → l ≤ 23 → Q (.int l t) { s with toks := tk' }) : wpAny (model prog w) A T Q E s :=
  wpAny_mono h1 (fun v s' ⟨l, t, tk', e1, l1, l2, e2⟩ => by rw [e1, e2]; exact h2 l t tk' l1 l2) fun _ _ x => x
theorem cut_b {T : Sem Flow} {Q : Flow → Shared → Prop} {b₀ a bb top : Int} {t t1 t2 : Tok} (_F : Fr h₀ L s.heap (fun y => if y = Str.ofString "b" then some (.int b₀ t) else m₁ y)) (_N : News h₀ L s.heap ((W, wob a t1 bb t2 S) :: tl)) (_h : b₀ < top)
    (h1 : wpAny (model prog w) A T (CutB h₀ L W S m₁ tl top bb s) E s)
    (h2 : ∀ (h' : Heap) (tk' : Nat) (b : Int) (tb : Tok) (a' : Int) (t1' : Tok) (b' : Int) (t2' : Tok), 0 ≤ b → b < top → intBits a' ≤ 300 → 0 ≤ b' → b' ≤ bb + 3 →
      Fr h₀ L h' (fun y => if y = Str.ofString "b" then some (.int b tb) else m₁ y) → News h₀ L h' ((W, wob a' t1' b' t2' S) :: tl) → Q .next { s with heap := h', toks := tk' }) : wpAny (model prog w) A T Q E s :=
  wpAny_mono h1 (fun fl s' ⟨h', tk', b, tb, a', t1', b', t2', e1, e2, p1, p2, p3, p4, p5, F', N'⟩ => by rw [e1, e2]; exact h2 h' tk' b tb a' t1' b' t2' p1 p2 p3 p4 p5 F' N') fun _ _ x => x
theorem cut_k {T : Sem Flow} {Q : Flow → Shared → Prop} (_F : Fr h₀ L s.heap m) (_N : News h₀ L s.heap news)
    (h1 : wpAny (model prog w) A T (CutK h₀ L m news s) E s) (h2 : ∀ (h' : Heap) (tk' : Nat), Fr h₀ L h' m → News h₀ L h' news → Q .next { s with heap := h', toks := tk' }) : wpAny (model prog w) A T Q E s :=
  wpAny_mono h1 (fun fl s' ⟨h', tk', e1, e2, F', N'⟩ => by rw [e1, e2]; exact h2 h' tk' F' N') fun _ _ x => x
theorem cut_i_end {l : Int} {t : Tok} {tk' : Nat} (h1 : 1 ≤ l) (h2 : l ≤ 23) : CutI s (.int l t) { s with toks := tk' } := ⟨l, t, tk', rfl, h1, h2, rfl⟩
theorem cut_b_end1 {b b₀ a' b' bb top : Int} {t t₀ t1' t2' : Tok} {tk' : Nat} (F' : Fr h₀ L h' (fun y => if y = Str.ofString "b" then some (.int b t) else (if y = Str.ofString "b" then some (.int b₀ t₀) else m₁ y))) (N' : News h₀ L h' ((W, wob a' t1' b' t2' S) :: tl))
    (p1 : 0 ≤ b) (p2 : b < top) (p3 : intBits a' ≤ 300) (p4 : 0 ≤ b') (p5 : b' ≤ bb + 3) : CutB h₀ L W S m₁ tl top bb s .next { s with heap := h', toks := tk' } := by
  refine ⟨h', tk', b, t, a', t1', b', t2', rfl, rfl, p1, p2, p3, p4, p5, ?_, N'⟩
  have e : (fun y => if y = Str.ofString "b" then some (Value.int b t) else (if y = Str.ofString "b" then some (Value.int b₀ t₀) else m₁ y)) = fun y => if y = Str.ofString "b" then some (Value.int b t) else m₁ y := by
    funext y
    by_cases h : y = Str.ofString "b"
    · rw [if_pos h, if_pos h]
    · rw [if_neg h, if_neg h, if_neg h]
  rw [e] at F'
  exact F'
theorem cut_b_end2 {b a' b' bb top : Int} {t t1' t2' : Tok} {tk' : Nat} (F' : Fr h₀ L h' (fun y => if y = Str.ofString "b" then some (.int b t) else m₁ y)) (N' : News h₀ L h' ((W, wob a' t1' b' t2' S) :: tl))
    (p1 : 0 ≤ b) (p2 : b < top) (p3 : intBits a' ≤ 300) (p4 : 0 ≤ b') (p5 : b' ≤ bb + 3) : CutB h₀ L W S m₁ tl top bb s .next { s with heap := h', toks := tk' } :=
  ⟨h', tk', b, t, a', t1', b', t2', rfl, rfl, p1, p2, p3, p4, p5, F', N'⟩
theorem cut_k_end {tk' : Nat} (F' : Fr h₀ L h' m) (N' : News h₀ L h' news) : CutK h₀ L m news s .next { s with heap := h', toks := tk' } := ⟨h', tk', rfl, rfl, F', N'⟩
end

theorem stored_ne {z : Str} (h : storedL.contains z = false) : z ≠ Str.ofString "form" ∧ z ≠ Str.ofString "span" ∧ z ≠ Str.ofString "a" ∧ z ≠ Str.ofString "b" ∧ z ≠ Str.ofString "flipped" ∧ z ≠ Str.ofString "bare" := by
  refine ⟨?_, ?_, ?_, ?_, ?_, ?_⟩ <;> (intro e; subst e; exact absurd h (by decide))
theorem bad1 {f : Fm} {b : Int} (hne : negF f b ≠ nanF f) (hk : (kindF f b == Str.ofString "none") = true) (hX : FmX f) (h0 : 0 ≤ b) (h1 : b < 2 * spanF f) : False := hne (neg_none hX h0 h1 hk).1
theorem bad2 {f : Fm} {b : Int} (hne : absF f b ≠ nanF f) (hk : (kindF f b == Str.ofString "none") = true) (hX : FmX f) (h0 : 0 ≤ b) (h1 : b < 2 * spanF f) : False := hne (neg_none hX h0 h1 hk).2
theorem bad3 {f : Fm} {b z : Int} (hne : negF f b ≠ z) (hk : (kindF f b == Str.ofString "none") = false) (e : z = (b + spanF f).fmod (2 * spanF f)) (hX : FmX f) (h0 : 0 ≤ b) (h1 : b < 2 * spanF f) : False := hne ((neg_some hX h0 h1 hk).1.trans e.symm)
theorem bad4 {f : Fm} {b z : Int} (hne : absF f b ≠ z) (hk : (kindF f b == Str.ofString "none") = false) (e : z = b.fmod (spanF f)) (hX : FmX f) (h0 : 0 ≤ b) (h1 : b < 2 * spanF f) : False := hne ((neg_some hX h0 h1 hk).2.trans e.symm)

local macro_rules | `(tactic| walk_at "subscriptTail BinOp") => `(tactic| k_extra "subscriptTail BinOp")
theorem word44 : True := by
  k_with "subscriptTail BinOp" => (k_here; (with_reducible show wpAny _ _ (subscriptTail (PySem.Expr.BinOp _ _ _ _) _ _ _) _ _ _); k_dflt (refine kba_turn (value' := PySem.Expr.Name (PySem.Str.ofString "_") ⟨0, 0, 0, 0⟩) (fun _ => rfl) ?_))
  trivial
theorem word45 : True := by
  k_with "exec For Name Call cons nil" => (k_here; (rename Fr _ _ _ _ => lF'); (with_unfolding_all refine' For_invVF lF' ?k1 ?k2 ?_; (case k1 => exact rfl); (case k2 => exact rfl); k_whole))
  trivial
theorem word46 : True := by
  k_with "call ref" => (k_here; (with_reducible show wpAny _ _ (call (Value.ref 63) _) _ _ _); k_dflt (refine' use_ctI (c_nan ?cx ?cf) ?gB ?gF ?gX ?gN ?gT ?gk ?gd ?gu ?_; (case gB => k_asm); (case gF => k_asm); (case gX => k_asm); (case gN => k_asm); (case gT => k_asm); (case gk => first | exact rfl | assumption); (case cx => first | assumption | exact FmIn.law (by assumption)); (case cf => assumption); (case gd => ktr_room); (case gu => ktr_units)); intro t9 h9 tk9 F9 N9; (try dsimp only); (try k_fold))
  trivial
theorem word47 : True := by
  k_with "call ref" => (k_here; (with_reducible show wpAny _ _ (call (Value.ref 219) _) _ _ _); k_dflt (refine' use_ctI (c_span ?cx ?cf) ?gB ?gF ?gX ?gN ?gT ?gk ?gd ?gu ?_; (case gB => k_asm); (case gF => k_asm); (case gX => k_asm); (case gN => k_asm); (case gT => k_asm); (case gk => first | exact rfl | assumption); (case cx => first | assumption | exact FmIn.law (by assumption)); (case cf => assumption); (case gd => ktr_room); (case gu => ktr_units)); intro t9 h9 tk9 F9 N9; (try dsimp only); (try k_fold))
  trivial
theorem word48 : True := by
  k_with "call ref" => (k_here; (with_reducible show wpAny _ _ (call (Value.ref 226) _) _ _ _); k_dflt (refine' use_ctS (c_kind ?cx ?cf ?c0) ?gB ?gF ?gX ?gN ?gT ?gk ?gd ?gu ?_; (case gB => k_asm); (case gF => k_asm); (case gX => k_asm); (case gN => k_asm); (case gT => k_asm); (case gk => first | exact rfl | assumption); (case cx => first | assumption | exact FmIn.law (by assumption)); (case cf => assumption); (case c0 => ((with_reducible apply bitsLe); (bits_by_make); decide)); (case gd => ktr_room); (case gu => ktr_units)); intro t9 h9 tk9 F9 N9; (try dsimp only); (try k_fold))
  trivial
theorem word49 : True := by
  k_with "call ref" => (k_here; (with_reducible show wpAny _ _ (call (Value.ref 134) _) _ _ _); k_dflt (refine' use_ctI (c_neg_t ?cx ?cf ?c0 ?c1 ?c2) ?gB ?gF ?gX ?gN ?gT ?gk ?gd ?gu ?_; (case gB => k_asm); (case gF => k_asm); (case gX => k_asm); (case gN => k_asm); (case gT => k_asm); (case gk => first | exact rfl | assumption); (case cx => first | assumption | exact FmIn.law (by assumption)); (case cf => assumption); (case c0 => assumption); (case c1 => first | assumption | exact (neg_rng (by assumption) (by assumption) (by assumption)).1 | exact (neg_rng (by assumption) (by assumption) (by assumption)).2); (case c2 => first | assumption | exact (neg_rng (by assumption) (by assumption) (by assumption)).1 | exact (neg_rng (by assumption) (by assumption) (by assumption)).2); (case gd => ktr_room); (case gu => ktr_units)); intro t9 h9 tk9 F9 N9; (try dsimp only); (try k_fold))
  trivial
theorem word50 : True := by
  k_with "call ref" => (k_here; (with_reducible show wpAny _ _ (call (Value.ref 141) _) _ _ _); k_dflt (refine' use_ctI (c_abs_t ?cx ?cf ?c0 ?c1 ?c2) ?gB ?gF ?gX ?gN ?gT ?gk ?gd ?gu ?_; (case gB => k_asm); (case gF => k_asm); (case gX => k_asm); (case gN => k_asm); (case gT => k_asm); (case gk => first | exact rfl | assumption); (case cx => first | assumption | exact FmIn.law (by assumption)); (case cf => assumption); (case c0 => assumption); (case c1 => first | assumption | exact (neg_rng (by assumption) (by assumption) (by assumption)).1 | exact (neg_rng (by assumption) (by assumption) (by assumption)).2); (case c2 => first | assumption | exact (neg_rng (by assumption) (by assumption) (by assumption)).1 | exact (neg_rng (by assumption) (by assumption) (by assumption)).2); (case gd => ktr_room); (case gu => ktr_units)); intro t9 h9 tk9 F9 N9; (try dsimp only); (try k_fold))
  trivial
theorem word51 : True := by
  k_with "call ref" => (k_here; (with_reducible show wpAny _ _ (call (Value.ref 155) _) _ _ _); k_dflt (refine' use_ctI (c_add_t ?cx ?cf ?c0 ?c1 ?c2 ?c3 ?c4) ?gB ?gF ?gX ?gN ?gT ?gk ?gd ?gu ?_; (case gB => k_asm); (case gF => k_asm); (case gX => k_asm); (case gN => k_asm); (case gT => k_asm); (case gk => first | exact rfl | assumption); (case cx => first | assumption | exact FmIn.law (by assumption)); (case cf => assumption); (case c0 => assumption); (case c1 => first | assumption | exact (neg_rng (by assumption) (by assumption) (by assumption)).1 | exact (neg_rng (by assumption) (by assumption) (by assumption)).2); (case c2 => first | assumption | exact (neg_rng (by assumption) (by assumption) (by assumption)).1 | exact (neg_rng (by assumption) (by assumption) (by assumption)).2); (case c3 => first | assumption | exact (neg_rng (by assumption) (by assumption) (by assumption)).1 | exact (neg_rng (by assumption) (by assumption) (by assumption)).2); (case c4 => first | assumption | exact (neg_rng (by assumption) (by assumption) (by assumption)).1 | exact (neg_rng (by assumption) (by assumption) (by assumption)).2); (case gd => ktr_room); (case gu => ktr_units)); intro t9 h9 tk9 F9 N9; (try dsimp only); (try k_fold))
  trivial
theorem word52 : True := by
  k_with "call ref" => (k_here; (with_reducible show wpAny _ _ (call (Value.ref 162) _) _ _ _); k_dflt (refine' use_ctI (c_sub_t ?cx ?cf ?c0 ?c1 ?c2 ?c3 ?c4) ?gB ?gF ?gX ?gN ?gT ?gk ?gd ?gu ?_; (case gB => k_asm); (case gF => k_asm); (case gX => k_asm); (case gN => k_asm); (case gT => k_asm); (case gk => first | exact rfl | assumption); (case cx => first | assumption | exact FmIn.law (by assumption)); (case cf => assumption); (case c0 => assumption); (case c1 => first | assumption | exact (neg_rng (by assumption) (by assumption) (by assumption)).1 | exact (neg_rng (by assumption) (by assumption) (by assumption)).2); (case c2 => first | assumption | exact (neg_rng (by assumption) (by assumption) (by assumption)).1 | exact (neg_rng (by assumption) (by assumption) (by assumption)).2); (case c3 => first | assumption | exact (neg_rng (by assumption) (by assumption) (by assumption)).1 | exact (neg_rng (by assumption) (by assumption) (by assumption)).2); (case c4 => first | assumption | exact (neg_rng (by assumption) (by assumption) (by assumption)).1 | exact (neg_rng (by assumption) (by assumption) (by assumption)).2); (case gd => ktr_room); (case gu => ktr_units)); intro t9 h9 tk9 F9 N9; (try dsimp only); (try k_fold))
  trivial
theorem word53 : True := by
  k_with "call ref" => (k_here; (with_reducible show wpAny _ _ (call (Value.ref 169) _) _ _ _); k_dflt (refine' use_ctI (c_mul_t ?cx ?cf ?c0 ?c1 ?c2 ?c3 ?c4) ?gB ?gF ?gX ?gN ?gT ?gk ?gd ?gu ?_; (case gB => k_asm); (case gF => k_asm); (case gX => k_asm); (case gN => k_asm); (case gT => k_asm); (case gk => first | exact rfl | assumption); (case cx => first | assumption | exact FmIn.law (by assumption)); (case cf => assumption); (case c0 => assumption); (case c1 => first | assumption | exact (neg_rng (by assumption) (by assumption) (by assumption)).1 | exact (neg_rng (by assumption) (by assumption) (by assumption)).2); (case c2 => first | assumption | exact (neg_rng (by assumption) (by assumption) (by assumption)).1 | exact (neg_rng (by assumption) (by assumption) (by assumption)).2); (case c3 => first | assumption | exact (neg_rng (by assumption) (by assumption) (by assumption)).1 | exact (neg_rng (by assumption) (by assumption) (by assumption)).2); (case c4 => first | assumption | exact (neg_rng (by assumption) (by assumption) (by assumption)).1 | exact (neg_rng (by assumption) (by assumption) (by assumption)).2); (case gd => ktr_room); (case gu => ktr_units)); intro t9 h9 tk9 F9 N9; (try dsimp only); (try k_fold))
  trivial
theorem word54 : True := by
  k_with "call ref" => (k_here; (with_reducible show wpAny _ _ (call (Value.ref 184) _) _ _ _); k_dflt (refine' use_ctI (c_div_t ?cx ?cf ?c0 ?c1 ?c2 ?c3 ?c4) ?gB ?gF ?gX ?gN ?gT ?gk ?gd ?gu ?_; (case gB => k_asm); (case gF => k_asm); (case gX => k_asm); (case gN => k_asm); (case gT => k_asm); (case gk => first | exact rfl | assumption); (case cx => first | assumption | exact FmIn.law (by assumption)); (case cf => assumption); (case c0 => assumption); (case c1 => first | assumption | exact (neg_rng (by assumption) (by assumption) (by assumption)).1 | exact (neg_rng (by assumption) (by assumption) (by assumption)).2); (case c2 => first | assumption | exact (neg_rng (by assumption) (by assumption) (by assumption)).1 | exact (neg_rng (by assumption) (by assumption) (by assumption)).2); (case c3 => first | assumption | exact (neg_rng (by assumption) (by assumption) (by assumption)).1 | exact (neg_rng (by assumption) (by assumption) (by assumption)).2); (case c4 => first | assumption | exact (neg_rng (by assumption) (by assumption) (by assumption)).1 | exact (neg_rng (by assumption) (by assumption) (by assumption)).2); (case gd => ktr_room); (case gu => ktr_units)); intro t9 h9 tk9 F9 N9; (try dsimp only); (try k_fold))
  trivial
theorem word55 : True := by
  k_with "call ref" => (k_here; (with_reducible show wpAny _ _ (call (Value.ref 254) _) _ _ _); k_dflt (refine' use_ctB (c_sumr_t ?cx ?cf ?c0 ?c1 ?c2 ?c3 ?c4) ?gB ?gF ?gX ?gN ?gT ?gk ?gd ?gu ?_; (case gB => k_asm); (case gF => k_asm); (case gX => k_asm); (case gN => k_asm); (case gT => k_asm); (case gk => first | exact rfl | assumption); (case cx => first | assumption | exact FmIn.law (by assumption)); (case cf => assumption); (case c0 => assumption); (case c1 => first | assumption | exact (neg_rng (by assumption) (by assumption) (by assumption)).1 | exact (neg_rng (by assumption) (by assumption) (by assumption)).2); (case c2 => first | assumption | exact (neg_rng (by assumption) (by assumption) (by assumption)).1 | exact (neg_rng (by assumption) (by assumption) (by assumption)).2); (case c3 => first | assumption | exact (neg_rng (by assumption) (by assumption) (by assumption)).1 | exact (neg_rng (by assumption) (by assumption) (by assumption)).2); (case c4 => first | assumption | exact (neg_rng (by assumption) (by assumption) (by assumption)).1 | exact (neg_rng (by assumption) (by assumption) (by assumption)).2); (case gd => ktr_room); (case gu => ktr_units)); intro h9 tk9 F9 N9; (try dsimp only); (try k_fold))
  trivial
theorem word56 : True := by
  k_with "call ref" => (k_here; (with_reducible show wpAny _ _ (call (Value.ref 261) _) _ _ _); k_dflt (refine' use_ctB (c_prodr_t ?cx ?cf ?c0 ?c1 ?c2 ?c3 ?c4) ?gB ?gF ?gX ?gN ?gT ?gk ?gd ?gu ?_; (case gB => k_asm); (case gF => k_asm); (case gX => k_asm); (case gN => k_asm); (case gT => k_asm); (case gk => first | exact rfl | assumption); (case cx => first | assumption | exact FmIn.law (by assumption)); (case cf => assumption); (case c0 => assumption); (case c1 => first | assumption | exact (neg_rng (by assumption) (by assumption) (by assumption)).1 | exact (neg_rng (by assumption) (by assumption) (by assumption)).2); (case c2 => first | assumption | exact (neg_rng (by assumption) (by assumption) (by assumption)).1 | exact (neg_rng (by assumption) (by assumption) (by assumption)).2); (case c3 => first | assumption | exact (neg_rng (by assumption) (by assumption) (by assumption)).1 | exact (neg_rng (by assumption) (by assumption) (by assumption)).2); (case c4 => first | assumption | exact (neg_rng (by assumption) (by assumption) (by assumption)).1 | exact (neg_rng (by assumption) (by assumption) (by assumption)).2); (case gd => ktr_room); (case gu => ktr_units)); intro h9 tk9 F9 N9; (try dsimp only); (try k_fold))
  trivial
theorem word57 : True := by
  k_with "call ref" => (k_here; (with_reducible show wpAny _ _ (call (Value.ref 268) _) _ _ _); k_dflt (refine' use_ctB (c_quor_t ?cx ?cf ?c0 ?c1 ?c2 ?c3 ?c4) ?gB ?gF ?gX ?gN ?gT ?gk ?gd ?gu ?_; (case gB => k_asm); (case gF => k_asm); (case gX => k_asm); (case gN => k_asm); (case gT => k_asm); (case gk => first | exact rfl | assumption); (case cx => first | assumption | exact FmIn.law (by assumption)); (case cf => assumption); (case c0 => assumption); (case c1 => first | assumption | exact (neg_rng (by assumption) (by assumption) (by assumption)).1 | exact (neg_rng (by assumption) (by assumption) (by assumption)).2); (case c2 => first | assumption | exact (neg_rng (by assumption) (by assumption) (by assumption)).1 | exact (neg_rng (by assumption) (by assumption) (by assumption)).2); (case c3 => first | assumption | exact (neg_rng (by assumption) (by assumption) (by assumption)).1 | exact (neg_rng (by assumption) (by assumption) (by assumption)).2); (case c4 => first | assumption | exact (neg_rng (by assumption) (by assumption) (by assumption)).1 | exact (neg_rng (by assumption) (by assumption) (by assumption)).2); (case gd => ktr_room); (case gu => ktr_units)); intro h9 tk9 F9 N9; (try dsimp only); (try k_fold))
  trivial
theorem word58 : True := by
  k_with "call ref" => (k_here; (with_reducible show wpAny _ _ (call (Value.ref 191) _) _ _ _); k_dflt (refine' use_ctW (c_pull ?c0 ?c1 ?c2 ?c3 ?c4 ?c5 ?c6) ?gB ?gF ?gX ?gN ?gT ?gk ?gd ?gu ?_; (case gB => k_asm); (case gF => k_asm); (case gX => k_asm); (case gN => k_asm); (case gT => k_asm); (case gk => first | exact rfl | assumption); (case c0 => assumption); (case c1 => assumption); (case c2 => assumption); (case c3 => first | assumption | omega); (case c4 => first | assumption | omega); (case c5 => first | assumption | omega); (case c6 => first | assumption | omega); (case gd => ktr_room); (case gu => ktr_units)); intro v9 a9 t91 b9 t92 h9 tk9 hR9 F9 N9; (obtain ⟨r9, t9, e9, q91, q92, q93, q94, q95⟩ := hR9; subst e9); (try dsimp only); (try k_fold))
  trivial
theorem word59 : True := by
  k_with "call ref" => (k_here; (with_reducible show wpAny _ _ (call (Value.ref 198) _) _ _ _); k_dflt (refine' use_ctW (c_lbits ?c0 ?c1 ?c2 ?c3 ?c4 ?c5 ?c6) ?gB ?gF ?gX ?gN ?gT ?gk ?gd ?gu ?_; (case gB => k_asm); (case gF => k_asm); (case gX => k_asm); (case gN => k_asm); (case gT => k_asm); (case gk => first | exact rfl | assumption); (case c0 => assumption); (case c1 => assumption); (case c2 => assumption); (case c3 => first | assumption | omega); (case c4 => first | assumption | omega); (case c5 => first | assumption | omega); (case c6 => first | assumption | omega); (case gd => ktr_room); (case gu => ktr_units)); intro v9 a9 t91 b9 t92 h9 tk9 hR9 F9 N9; (obtain ⟨r9, t9, e9, q91, q92, q93, q94, q95⟩ := hR9; subst e9); (try dsimp only); (try k_fold))
  trivial
theorem word60 : True := by
  k_with "call ref" => (k_here; (with_reducible show wpAny _ _ (call (Value.ref 31) _) _ _ _); k_dflt (refine' use_form ?c0 ?c1 ?c2 ?c3 ?c4 ?c5 ?gB ?gF ?gX ?gN ?gT ?gk ?gd ?gu ?_; (case gB => k_asm); (case gF => k_asm); (case gX => k_asm); (case gN => k_asm); (case gT => k_asm); (case gk => first | exact rfl | assumption); (case c0 => assumption); (case c1 => assumption); (case c2 => omega); (case c3 => omega); (case c4 => omega); (case c5 => omega); (case gd => ktr_room); (case gu => ktr_units)); intro f9 x9 dx9 o91 o92 h9 tk9 hX9 hB9 hS9 hI9 hs9 hW9 F9 N9; (try dsimp only); (try k_fold))
  trivial
theorem word61 : True := by
  k_with "binaryOp Mod int int" => (k_here; (with_reducible refine my_mod ?kbe ?_); (case kbe => omega); intro z9 ez9 hz0 hz1)
  trivial
theorem word62 : True := by
  k_with "eval IfExp" => (k_here; (with_reducible show wpAny _ _ (eval (Expr.IfExp (Expr.Compare (Expr.Name _ _) _ _ _) (Expr.Constant _ _ _) (Expr.Constant _ _ _) _) _) _ _ _); (fail_if_success (with_reducible show wpAny _ _ _ (CutI _) _ _)); k_dflt (refine cut_i ?_ ?_); rotate_left; (intro l9 t9 tk9 hl0 hl1); (try dsimp only))
  trivial
theorem word63 : True := by
  k_with "exec If" => (k_here; (with_reducible show wpAny _ _ (exec (Stmt.If (Expr.Compare (Expr.Call (Expr.Name (Str.ofString "_law_pull") _) _ _ _) _ _ _) _ _ _) _) _ _ _); (fail_if_success (with_reducible show wpAny _ _ _ (CutB _ _ _ _ _ _ _ _ _) _ _)); k_dflt (refine cut_b (by k_asm) (by k_asm) (by assumption) ?_ ?_); rotate_left; (intro h9 tk9 b9 tb9 a9 t91 b91 t92 hz0 hz1 q93 q94 q95 F9 N9); (try dsimp only); (try k_fold))
  trivial
theorem word64 : True := by
  k_with "exec If" => (k_here; (with_reducible show wpAny _ _ (exec (Stmt.If (Expr.Compare (Expr.Call (Expr.Name (Str.ofString "_law_kind") _) _ _ _) _ _ _) _ _ _) _) _ _ _); (fail_if_success (with_reducible show wpAny _ _ _ (CutK _ _ _ _ _) _ _)); k_dflt (refine cut_k (by k_asm) (by k_asm) ?_ ?_); rotate_left; (intro h9 tk9 F9 N9); (try dsimp only); (try k_fold))
  trivial

set_option maxHeartbeats 8000000 in
theorem law0 : PySem.Challenge.rw_pb0330_01.Holds := Mine.hd (by
  k_with "pyIter ref" => ((with_reducible show wpAny _ _ (pyIter (Value.ref _)) (fun it s₂ => LoopAtV _ _ _ _ _ _ _ _ _ it s₂) _ _); (rename Fr _ _ _ _ => lF'); (rename News _ _ _ _ => lN'); (rename IsRange _ _ _ _ _ _ _ _ => rgX); k_dflt ((with_unfolding_all refine' kst_range (n := 3) (ledL _ _ _) (fun _ => []) (fun _ => True) storedL PL ⟨0, ?t1, 0, ?t2⟩ (by rfl) rgX (by decide) (by rfl) lF' lN' trivial ?kk pl_start ?turn ?done); (case kk => (intro p hp; exact nomatch hp)); (case' turn => ((have hs := start_well lN' (by assumption) (by assumption)); (have hW := start_ne lN' (by k_all)); clear lF' lN'; intro c9 pre9 k9 tk9 u9 h9 tk9' own9 e1 e2 hoff _ hP F9 N9; (have N10 : News _ _ _ ((_, wob c9.a c9.t1 c9.b c9.t2 _) :: (_ ++ own9)) := N9); clear N9; (have hs' := hs.app own9); (have hW' := app_neL hW hoff); (have hP' := hP); obtain ⟨p1, p2, p3⟩ := hP'; dsimp only [storedL, kstB] at F9)); (case' done => (clear lF' lN'; intro c9 u9 h9 tk9 _ hP F9 N9; dsimp only [storedL, kstB] at F9))))
  k_with "InvEndN" => k_dflt exact law_end (by k_asm) (by k_asm) (by intro z h1 h2; obtain ⟨h3, h4, h5, h6, h7, h8⟩ := stored_ne h2; refine (if_neg h8).trans ((if_neg h7).trans ((if_neg h6).trans ((if_neg h5).trans ((if_neg h4).trans ((if_neg h3).trans ((if_neg h1).trans (if_neg (fun q => absurd (h2.symm.trans q) (by decide))))))))))  (pl_turn (by assumption) (by assumption) (by assumption) (by omega))
  k_go0
  (all_goals try k_fold)
  k_steps
  all_goals (first
    | exact cut_i_end (by decide) (by decide)
    | exact cut_b_end1 (by k_asm) (by k_asm) (by assumption) (by assumption) (by assumption) (by assumption) (by omega)
    | exact cut_b_end2 (by k_asm) (by k_asm) (by assumption) (by assumption) (by assumption) (by assumption) (by omega)
    | exact cut_k_end (by k_asm) (by k_asm)
    | exact (bad1 (by assumption) (by assumption) (by assumption) (by assumption) (by assumption)).elim
    | exact (bad2 (by assumption) (by assumption) (by assumption) (by assumption) (by assumption)).elim
    | exact (bad3 (by assumption) (by assumption) (by assumption) (by assumption) (by assumption) (by assumption)).elim
    | exact (bad4 (by assumption) (by assumption) (by assumption) (by assumption) (by assumption) (by assumption)).elim))

end Mine
theorem PySem.Challenge.cw_pb0330_01_holds : PySem.Challenge.rw_pb0330_01.Holds :=
  Mine.law0
