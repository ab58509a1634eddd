/-
  The writer's functions, in the small form's evaluator.
-/
import Derived.Test.YtflciaomdlgjpaaGreatDoorP1
set_option linter.unusedVariables false
set_option linter.unusedSimpArgs false
namespace Go.Proofs.YtflciaomdlgjpaaGreatDoor.VVE.Obj
open Go Go.Proofs.YtflciaomdlgjpaaGreatDoor.VVE

/-- A number in groups of seven bits. -/
def varint (u : Nat) : List UInt8 := if u < 128 then [UInt8.ofNat u] else UInt8.ofNat (u % 128 + 128) :: varint (u / 128)
  termination_by u
  decreasing_by omega

theorem wrap_u64 {x : Int} (h0 : 0 ≤ x) (h1 : x < 2 ^ 64) : IntKind.u64.wrap x = x := by
  simp [IntKind.wrap, IntKind.bits, IntKind.signed]
  omega

theorem and127 (u : Nat) (h : u < 2 ^ 64) : VVE.bits .and .u64 u 127 = (u % 128 : Nat) := by
  have : (BitVec.ofInt 64 (u : Int) &&& BitVec.ofInt 64 127).toNat = u % 128 := by
    have e1 : BitVec.ofInt 64 (u : Int) = BitVec.ofNat 64 u := by simp
    have e2 : BitVec.ofInt 64 127 = BitVec.ofNat 64 127 := by decide
    rw [e1, e2, BitVec.toNat_and, BitVec.toNat_ofNat, BitVec.toNat_ofNat, Nat.mod_eq_of_lt h]
    exact Nat.and_two_pow_sub_one_eq_mod u 7
  unfold VVE.bits
  show IntKind.u64.wrap ((BitVec.ofInt 64 (u : Int) &&& BitVec.ofInt 64 127).toNat : Int) = _
  rw [this, wrap_u64 (by omega) (by omega)]

theorem or128 (m : Nat) (h : m < 256) : VVE.bits .or .u8 (m : Int) 128 = (m % 128 + 128 : Nat) := by
  have key : ∀ x : BitVec 8, (x ||| 128#8).toNat = x.toNat % 128 + 128 := by decide
  have e1 : BitVec.ofInt 8 (m : Int) = BitVec.ofNat 8 m := by simp
  have e2 : BitVec.ofInt 8 128 = 128#8 := by decide
  have : (BitVec.ofInt 8 (m : Int) ||| BitVec.ofInt 8 128).toNat = m % 128 + 128 := by
    rw [e1, e2, key, BitVec.toNat_ofNat, Nat.mod_eq_of_lt h]
  unfold VVE.bits
  show IntKind.u8.wrap ((BitVec.ofInt 8 (m : Int) ||| BitVec.ofInt 8 128).toNat : Int) = _
  rw [this]
  simp [IntKind.wrap, IntKind.bits, IntKind.signed]
  omega

theorem wrap_u8 (u : Nat) : IntKind.u8.wrap (u : Int) = (u % 256 : Nat) := by
  simp [IntKind.wrap, IntKind.bits, IntKind.signed]

theorem shr7 (u : Nat) : (u : Int).fdiv (2 ^ min 7 IntKind.u64.bits) = (u / 128 : Nat) := by
  rw [Int.fdiv_eq_ediv_of_nonneg _ (by decide)]
  have : (2 : Int) ^ min 7 IntKind.u64.bits = 128 := by decide
  rw [this]
  omega

theorem byte_eq (n : Nat) (h : n < 256) : [V.int .u8 (n : Nat)] = ofBytes [UInt8.ofNat n] := by
  simp [ofBytes]
  omega

def body40 : IC := match p40.body with | .seq _ (.seq _ (.seq (.block _ (.loop c)) _)) => c | _ => .stop
theorem body40_eq : body40 = (match p40.body with | .seq _ (.seq _ (.seq (.block _ (.loop c)) _)) => c | _ => .stop) := rfl

def E40 (t9 t13 : V) (u : Nat) : List V :=
  [.ref 0 0, .undef, .undef, .undef, .int .u64 u, .undef, .undef, .undef, .undef, t9, .undef, .undef, .undef, t13, .undef, .undef, .undef, .undef, .undef, .undef, .undef, .undef, .undef, .undef, .undef, .undef, .undef, .undef, .undef, .undef, .undef, .undef, .undef, .undef, .undef, .undef, .undef, .undef, .undef, .undef]

theorem round40 (call : VVE.Call) (n u : Nat) (t9 : V) (bs : List UInt8) (rest : List Obj') (hb : bs.length < 2 ^ 39) (hu : u < 2 ^ 64) (hge : 128 ≤ u) :
    evC call n body40 { env := E40 t9 .undef u, heap := .cells [.sl true (ofBytes bs)] :: rest } =
      some (.normal, { env := E40 .undef .undef (u / 128), heap := .cells [.sl true (ofBytes (bs ++ [UInt8.ofNat (u % 128 + 128)]))] :: rest }) := by
  have h1 : (128 : Int) ≤ u := by omega
  have h2 : bs.length + 1 ≤ 1099511627776 := by omega
  have h3 := shr7 u
  have h4 : IntKind.u8.wrap ((u : Int) % 128) = (u % 128 : Nat) := by
    have := wrap_u8 (u % 128)
    rw [Nat.mod_eq_of_lt (show u % 128 < 256 by omega)] at this
    rw [← this]
    congr 1
  have h5 := or128 (u % 128) (by omega)
  rw [show u % 128 % 128 = u % 128 by omega] at h5
  have h6 := byte_eq (u % 128 + 128) (by omega)
  simp only [body40_eq, p40, E40]
  simp [h1, h2, h3, h4, and127 u hu, ofBytes_append, -UInt8.ofNat_add]
  rw [show ((u : Int) % 128) = ((u % 128 : Nat) : Int) by omega, h5]
  exact h6

theorem exit40 (call : VVE.Call) (n u : Nat) (t9 : V) (h : List Obj') (hlt : u < 128) :
    evC call n body40 { env := E40 t9 .undef u, heap := h } = some (.exit 0, { env := E40 .undef (.bool false) u, heap := h }) := by
  have h1 : ¬ (128 : Int) ≤ u := by omega
  simp only [body40_eq, p40, E40]
  simp [h1]

theorem varint_length : ∀ (m u : Nat), u < 128 ^ (m + 1) → (varint u).length ≤ m + 1
  | 0, u, h => by
    have : u < 128 := by simpa using h
    unfold varint
    simp [this]
  | m + 1, u, h => by
    unfold varint
    split
    · simp
    · have := varint_length m (u / 128) (by
        rw [Nat.div_lt_iff_lt_mul (by omega)]
        rw [Nat.pow_succ] at h
        exact h)
      simp
      omega

/-- Nine bytes at most are written in the loop. -/
theorem varint_split : ∀ (m u : Nat), u < 128 ^ (m + 1) → ∃ pre u', varint u = pre ++ [UInt8.ofNat u'] ∧ u' < 128 ∧ pre.length ≤ m
  | 0, u, h => ⟨[], u, by unfold varint; simp [show u < 128 by simpa using h], by simpa using h, by simp⟩
  | m + 1, u, h => by
    by_cases hu : u < 128
    · exact ⟨[], u, by unfold varint; simp [hu], hu, by simp⟩
    · obtain ⟨pre, u', h1, h2, h3⟩ := varint_split m (u / 128) (by
        rw [Nat.div_lt_iff_lt_mul (by omega)]
        rw [Nat.pow_succ] at h
        exact h)
      exact ⟨UInt8.ofNat (u % 128 + 128) :: pre, u', by rw [varint, if_neg hu, h1]; simp, h2, by simp; omega⟩

theorem loop40 (call : VVE.Call) (n : Nat) (rest : List Obj') : ∀ (m u : Nat), u < 128 ^ (m + 1) → u < 2 ^ 64 → ∀ (k : Nat) (t9 : V) (bs : List UInt8), m < k → bs.length + m < 2 ^ 39 →
    ∃ pre u', varint u = pre ++ [UInt8.ofNat u'] ∧ u' < 128 ∧ iter (evC call n body40) k { env := E40 t9 .undef u, heap := .cells [.sl true (ofBytes bs)] :: rest } =
      some (.exit 0, { env := E40 .undef (.bool false) u', heap := .cells [.sl true (ofBytes (bs ++ pre))] :: rest })
  | m, u, h, hu, 0, _, _, hk, _ => by omega
  | m, u, h, hu, k + 1, t9, bs, hk, hb => by
    by_cases hlt : u < 128
    · exact ⟨[], u, by unfold varint; simp [hlt], hlt, by simp [iter, exit40 call n u t9 _ hlt]⟩
    · cases m with
      | zero => exact absurd (by simpa using h) hlt
      | succ m =>
        obtain ⟨pre, u', h1, h2, h3⟩ := loop40 call n rest m (u / 128) (by
          rw [Nat.div_lt_iff_lt_mul (by omega)]
          rw [Nat.pow_succ] at h
          exact h) (by omega) k .undef (bs ++ [UInt8.ofNat (u % 128 + 128)]) (by omega) (by simp; omega)
        refine ⟨UInt8.ofNat (u % 128 + 128) :: pre, u', by rw [varint, if_neg hlt, h1]; simp, h2, ?_⟩
        simp only [iter]
        rw [round40 call n u t9 bs rest (by omega) hu (by omega)]
        show iter (evC call n body40) k _ = _
        rw [h3]
        simp

/-- The number behind a signed number. -/
def zig (n : Int) : Nat := if 0 ≤ n then (2 * n).toNat else (-2 * n - 1).toNat

theorem zig_lt {n : Int} (h0 : -(2 ^ 63) ≤ n) (h1 : n < 2 ^ 63) : zig n < 2 ^ 64 := by
  unfold zig
  split <;> omega

theorem xor_ones (y : Nat) (h : y < 2 ^ 64) : VVE.bits .xor .u64 IntKind.u64.max (y : Int) = (2 ^ 64 - 1 - y : Nat) := by
  have e1 : BitVec.ofInt 64 (y : Int) = BitVec.ofNat 64 y := by simp
  have e2 : BitVec.ofInt 64 IntKind.u64.max = BitVec.allOnes 64 := by decide
  have : (BitVec.ofInt 64 IntKind.u64.max ^^^ BitVec.ofInt 64 (y : Int)).toNat = 2 ^ 64 - 1 - y := by
    rw [e1, e2, BitVec.allOnes_xor, BitVec.toNat_not, BitVec.toNat_ofNat, Nat.mod_eq_of_lt h]
  unfold VVE.bits
  show IntKind.u64.wrap ((BitVec.ofInt 64 IntKind.u64.max ^^^ BitVec.ofInt 64 (y : Int)).toNat : Int) = _
  rw [this, wrap_u64 (by omega) (by omega)]

theorem twice {x : Int} (h0 : -(2 ^ 63) ≤ x) (h1 : x < 2 ^ 63) : IntKind.u64.wrap (IntKind.u64.wrap x * 2 ^ min 1 IntKind.u64.bits) = ((if 0 ≤ x then zig x else 2 ^ 64 - 1 - zig x : Nat) : Int) := by
  have e : (2 : Int) ^ min 1 IntKind.u64.bits = 2 := by decide
  rw [e]
  unfold zig
  simp [IntKind.wrap, IntKind.bits, IntKind.signed]
  split <;> omega

theorem num_run (call : VVE.Call) (n : Nat) (hn : 11 ≤ n) (x : Int) (h0 : -(2 ^ 63) ≤ x) (h1 : x < 2 ^ 63) (bs : List UInt8) (hb : bs.length < 2 ^ 38) (rest : List Obj') :
    evF call n p40 [.ref 0 0, .int .i64 x] (.cells [.sl true (ofBytes bs)] :: rest) = some (.tup [], .cells [.sl true (ofBytes (bs ++ varint (zig x)))] :: rest) := by
  have hz := zig_lt h0 h1
  have key : ∀ t9, ∃ pre u', varint (zig x) = pre ++ [UInt8.ofNat u'] ∧ u' < 128 ∧ pre.length ≤ 9 ∧ iter (evC call n body40) n { env := E40 t9 .undef (zig x), heap := .cells [.sl true (ofBytes bs)] :: rest } =
      some (.exit 0, { env := E40 .undef (.bool false) u', heap := .cells [.sl true (ofBytes (bs ++ pre))] :: rest }) := by
    intro t9
    have hl : zig x < 128 ^ (9 + 1) := Nat.lt_of_lt_of_le hz (by decide)
    obtain ⟨pre, u', k1, k2, k3⟩ := loop40 call n rest 9 (zig x) hl hz n t9 bs (by omega) (by omega)
    refine ⟨pre, u', k1, k2, ?_, k3⟩
    have := varint_length 9 _ hl
    rw [k1] at this
    simp at this
    exact this
  have h2 := twice h0 h1
  have last : ∀ (pre : List UInt8) (u' : Nat), varint (zig x) = pre ++ [UInt8.ofNat u'] → u' < 128 → ofBytes (bs ++ pre) ++ [V.int .u8 (u' : Int)] = ofBytes (bs ++ varint (zig x)) := by
    intro pre u' k1 k2
    rw [k1, byte_eq u' (by omega), ← ofBytes_append, List.append_assoc]
  unfold evF
  simp only [p40]
  by_cases hx : 0 ≤ x
  · have hx' : ¬ x < 0 := by omega
    obtain ⟨pre, u', k1, k2, k3, k4⟩ := key (.bool false)
    have e1 : bs.length + pre.length + 1 ≤ 1099511627776 := by omega
    have e2 := wrap_u8 u'
    rw [Nat.mod_eq_of_lt (show u' < 256 by omega)] at e2
    simp only [body40_eq, p40, E40] at k4
    simp [hx, hx', h2, evC_loop, k4, e1, e2, last pre u' k1 k2]
  · have hx' : x < 0 := by omega
    obtain ⟨pre, u', k1, k2, k3, k4⟩ := key .undef
    have e1 : bs.length + pre.length + 1 ≤ 1099511627776 := by omega
    have e2 := wrap_u8 u'
    rw [Nat.mod_eq_of_lt (show u' < 256 by omega)] at e2
    have e3 := xor_ones (2 ^ 64 - 1 - zig x) (by omega)
    rw [show 2 ^ 64 - 1 - (2 ^ 64 - 1 - zig x) = zig x by omega] at e3
    simp only [body40_eq, p40, E40] at k4
    rw [if_neg hx] at h2
    generalize 2 ^ 64 - 1 - zig x = y at h2 e3
    simp [hx', h2, evC_loop, k4, e1, e2, e3, show IntKind.u64.signed = false from rfl, last pre u' k1 k2]

end Go.Proofs.YtflciaomdlgjpaaGreatDoor.VVE.Obj

namespace Go.Proofs.YtflciaomdlgjpaaGreatDoor.VVE.Obj
open Go Go.Proofs.YtflciaomdlgjpaaGreatDoor.VVE

def body111 : IC := match p111.body with | .seq _ (.seq (.block _ (.loop c)) _) => c | _ => .stop
theorem body111_eq : body111 = (match p111.body with | .seq _ (.seq (.block _ (.loop c)) _) => c | _ => .stop) := rfl

def E111 (t13 : V) (u : Nat) : List V :=
  [.ref 0 0, .undef, .undef, .undef, .int .u64 u, .undef, .undef, .undef, .undef, .undef, .undef, .undef, .undef, t13, .undef, .undef, .undef, .undef, .undef, .undef, .undef, .undef, .undef, .undef, .undef, .undef, .undef, .undef, .undef, .undef, .undef, .undef, .undef, .undef, .undef, .undef, .undef, .undef, .undef]

theorem u8_int (u : Nat) : IntKind.u8.wrap (u : Int) = ((u % 256 : Nat) : Int) := wrap_u8 u

theorem round111 (call : VVE.Call) (n u : Nat) (bs : List UInt8) (fl : V) (rest : List Obj') (hb : bs.length < 2 ^ 39) (hge : 128 ≤ u) :
    evC call n body111 { env := E111 .undef u, heap := .cells [.sl true (ofBytes bs), fl] :: rest } =
      some (.normal, { env := E111 .undef (u / 128), heap := .cells [.sl true (ofBytes (bs ++ [UInt8.ofNat (u % 128 + 128)])), fl] :: rest }) := by
  have h1 : (128 : Int) ≤ u := by omega
  have h2 : bs.length + 1 ≤ 1099511627776 := by omega
  have h3 := shr7 u
  have h5 := or128 (u % 256) (by omega)
  rw [show u % 256 % 128 = u % 128 by omega, ← wrap_u8 u] at h5
  have h6 := byte_eq (u % 128 + 128) (by omega)
  simp only [body111_eq, p111, E111]
  simp [h1, h2, h3, h5, ofBytes_append, -UInt8.ofNat_add]
  exact h6

theorem exit111 (call : VVE.Call) (n u : Nat) (h : List Obj') (hlt : u < 128) :
    evC call n body111 { env := E111 .undef u, heap := h } = some (.exit 0, { env := E111 (.bool false) u, heap := h }) := by
  have h1 : ¬ (128 : Int) ≤ u := by omega
  simp only [body111_eq, p111, E111]
  simp [h1]

theorem loop111 (call : VVE.Call) (n : Nat) (fl : V) (rest : List Obj') : ∀ (m u : Nat), u < 128 ^ (m + 1) → ∀ (k : Nat) (bs : List UInt8), m < k → bs.length + m < 2 ^ 39 →
    ∃ pre u', varint u = pre ++ [UInt8.ofNat u'] ∧ u' < 128 ∧ pre.length ≤ m ∧ iter (evC call n body111) k { env := E111 .undef u, heap := .cells [.sl true (ofBytes bs), fl] :: rest } =
      some (.exit 0, { env := E111 (.bool false) u', heap := .cells [.sl true (ofBytes (bs ++ pre)), fl] :: rest })
  | m, u, h, 0, _, hk, _ => by omega
  | m, u, h, k + 1, bs, hk, hb => by
    by_cases hlt : u < 128
    · exact ⟨[], u, by unfold varint; simp [hlt], hlt, by simp, by simp [iter, exit111 call n u _ hlt]⟩
    · cases m with
      | zero => exact absurd (by simpa using h) hlt
      | succ m =>
        obtain ⟨pre, u', h1, h2, h4, h3⟩ := loop111 call n fl rest m (u / 128) (by
          rw [Nat.div_lt_iff_lt_mul (by omega)]
          rw [Nat.pow_succ] at h
          exact h) k (bs ++ [UInt8.ofNat (u % 128 + 128)]) (by omega) (by simp; omega)
        refine ⟨UInt8.ofNat (u % 128 + 128) :: pre, u', by rw [varint, if_neg hlt, h1]; simp, h2, by simp; omega, ?_⟩
        simp only [iter]
        rw [round111 call n u bs fl rest (by omega) (by omega)]
        show iter (evC call n body111) k _ = _
        rw [h3]
        simp

theorem xor_zero (y : Nat) (h : y < 2 ^ 64) : VVE.bits .xor .u64 (y : Int) 0 = y := by
  have e1 : BitVec.ofInt 64 (y : Int) = BitVec.ofNat 64 y := by simp
  have : (BitVec.ofInt 64 (y : Int) ^^^ BitVec.ofInt 64 0).toNat = y := by
    rw [e1]
    simp
    omega
  unfold VVE.bits
  show IntKind.u64.wrap ((BitVec.ofInt 64 (y : Int) ^^^ BitVec.ofInt 64 0).toNat : Int) = _
  rw [this, wrap_u64 (by omega) (by omega)]

theorem bits_xor_comm (x y : Int) : VVE.bits .xor .u64 x y = VVE.bits .xor .u64 y x := by
  unfold VVE.bits
  show IntKind.u64.wrap ((BitVec.ofInt 64 x ^^^ BitVec.ofInt 64 y).toNat : Int) = IntKind.u64.wrap ((BitVec.ofInt 64 y ^^^ BitVec.ofInt 64 x).toNat : Int)
  rw [BitVec.xor_comm]

theorem zig_bits {x : Int} (h0 : -(2 ^ 63) ≤ x) (h1 : x < 2 ^ 63) :
    VVE.bits .xor .u64 (IntKind.u64.wrap (IntKind.i64.wrap (x * 2 ^ min 1 IntKind.i64.bits))) (IntKind.u64.wrap (x.fdiv (2 ^ min 63 IntKind.i64.bits))) = (zig x : Nat) := by
  have hz := zig_lt h0 h1
  have e : (2 : Int) ^ min 1 IntKind.i64.bits = 2 := by decide
  have e' : (2 : Int) ^ min 63 IntKind.i64.bits = 9223372036854775808 := by decide
  rw [e, e', Int.fdiv_eq_ediv_of_nonneg _ (by decide)]
  by_cases hx : 0 ≤ x
  · have d : x / 9223372036854775808 = 0 := by omega
    have a : IntKind.u64.wrap (IntKind.i64.wrap (x * 2)) = (zig x : Nat) := by
      unfold zig
      simp [IntKind.wrap, IntKind.bits, IntKind.signed, hx]
      omega
    rw [d, a]
    exact xor_zero _ hz
  · have d : x / 9223372036854775808 = -1 := by omega
    have a : IntKind.u64.wrap (IntKind.i64.wrap (x * 2)) = ((2 ^ 64 - 1 - zig x : Nat) : Int) := by
      unfold zig
      simp [IntKind.wrap, IntKind.bits, IntKind.signed, hx]
      omega
    have b : IntKind.u64.wrap (-1) = IntKind.u64.max := by decide
    rw [d, a, b, bits_xor_comm, xor_ones _ (by omega)]
    congr 1
    omega

theorem number_run (call : VVE.Call) (n : Nat) (hn : 11 ≤ n) (x : Int) (h0 : -(2 ^ 63) ≤ x) (h1 : x < 2 ^ 63) (bs : List UInt8) (hb : bs.length < 2 ^ 38) (fl : V) (rest : List Obj') :
    evF call n p111 [.ref 0 0, .int .i64 x] (.cells [.sl true (ofBytes bs), fl] :: rest) = some (.tup [], .cells [.sl true (ofBytes (bs ++ varint (zig x))), fl] :: rest) := by
  have hz := zig_lt h0 h1
  obtain ⟨pre, u', k1, k2, k3, k4⟩ := loop111 call n fl rest 9 (zig x) (Nat.lt_of_lt_of_le hz (by decide)) n bs (by omega) (by omega)
  have last : ofBytes (bs ++ pre) ++ [V.int .u8 (u' : Int)] = ofBytes (bs ++ varint (zig x)) := by
    rw [k1, byte_eq u' (by omega), ← ofBytes_append, List.append_assoc]
  have e1 : bs.length + pre.length + 1 ≤ 1099511627776 := by omega
  have e2 := wrap_u8 u'
  rw [Nat.mod_eq_of_lt (show u' < 256 by omega)] at e2
  have h2 := zig_bits h0 h1
  simp only [body111_eq, p111, E111] at k4
  unfold evF
  simp only [p111]
  simp [h2, evC_loop, k4, e1, e2, last]

end Go.Proofs.YtflciaomdlgjpaaGreatDoor.VVE.Obj

namespace Go.Proofs.YtflciaomdlgjpaaGreatDoor.VVE.Obj
open Go Go.Proofs.YtflciaomdlgjpaaGreatDoor.VVE

/-- What the writer of numbers does, for a call. -/
def NumberOk (call : VVE.Call) : Prop := ∀ (x : Int), -(2 ^ 63) ≤ x → x < 2 ^ 63 → ∀ (bs : List UInt8), bs.length < 2 ^ 38 → ∀ (fl : V) (rest : List Obj'),
  call 111 [.ref 0 0, .int .i64 x] (.cells [.sl true (ofBytes bs), fl] :: rest) = some (.tup [], .cells [.sl true (ofBytes (bs ++ varint (zig x))), fl] :: rest)

theorem numbers_run (call : VVE.Call) (H : NumberOk call) (n : Nat) (x : Int) (h0 : -(2 ^ 63) ≤ x) (h1 : x < 2 ^ 63) (app : Bool) (bs : List UInt8) (hb : bs.length < 2 ^ 38) (fl : V) (rest : List Obj') :
    evF call (n + 3) p35 [.ref 0 0, .sl app [.int .i64 x]] (.cells [.sl true (ofBytes bs), fl] :: rest) = some (.tup [], .cells [.sl true (ofBytes (bs ++ varint (zig x))), fl] :: rest) := by
  have h := H x h0 h1 bs hb fl rest
  unfold evF
  simp only [p35]
  simp [evC_loop, iter_succ, h]

/-- What the writer of several numbers does with one. -/
def NumbersOk (call : VVE.Call) : Prop := ∀ (x : Int), -(2 ^ 63) ≤ x → x < 2 ^ 63 → ∀ (app : Bool) (bs : List UInt8), bs.length < 2 ^ 38 → ∀ (fl : V) (rest : List Obj'),
  call 35 [.ref 0 0, .sl app [.int .i64 x]] (.cells [.sl true (ofBytes bs), fl] :: rest) = some (.tup [], .cells [.sl true (ofBytes (bs ++ varint (zig x))), fl] :: rest)

theorem truth_run (call : VVE.Call) (H : NumberOk call) (n : Nat) (a b app : Bool) (bs : List UInt8) (hb : bs.length < 2 ^ 37) (fl : V) (rest : List Obj') :
    evF call (n + 4) p79 [.ref 0 0, .sl app [.bool a, .bool b]] (.cells [.sl true (ofBytes bs), fl] :: rest) =
      some (.tup [], .cells [.sl true (ofBytes (bs ++ [if a then 2 else 0] ++ [if b then 2 else 0])), fl] :: rest) := by
  have v1 : varint (zig 1) = [2] := by unfold varint; simp [zig]
  have v0 : varint (zig 0) = [0] := by unfold varint; simp [zig]
  have h1 : ∀ c : Bool, ∀ bs : List UInt8, bs.length < 2 ^ 38 → call 111 [.ref 0 0, .int .i64 (if c then 1 else 0)] (.cells [.sl true (ofBytes bs), fl] :: rest) =
      some (.tup [], .cells [.sl true (ofBytes (bs ++ [if c then 2 else 0])), fl] :: rest) := by
    intro c bs hb
    cases c
    · have := H 0 (by omega) (by omega) bs hb fl rest
      rw [v0] at this
      exact this
    · have := H 1 (by omega) (by omega) bs hb fl rest
      rw [v1] at this
      exact this
  have a1 := h1 a bs (by omega)
  have b1 := h1 b (bs ++ [if a then 2 else 0]) (by simp; omega)
  unfold evF
  simp only [p79]
  cases a <;> cases b <;> simp at a1 b1 <;> simp [evC_loop, iter_succ, a1, b1]

theorem text_run (call : VVE.Call) (H : NumbersOk call) (n : Nat) (t : List UInt8) (ht : t.length < 2 ^ 30) (bs : List UInt8) (hb : bs.length < 2 ^ 37) (fl : V) (rest : List Obj') :
    evF call n p34 [.ref 0 0, .str t] (.cells [.sl true (ofBytes bs), fl] :: rest) =
      some (.tup [], .cells [.sl true (ofBytes (bs ++ varint (zig t.length) ++ t)), fl] :: rest) := by
  have h := H t.length (by omega) (by omega) true bs (by omega) fl rest
  have hv : (varint (zig t.length)).length ≤ 10 := varint_length 9 _ (Nat.lt_of_lt_of_le (zig_lt (by omega) (by omega)) (by decide))
  have e1 : bs.length + (varint (zig t.length)).length + t.length ≤ 1099511627776 := by omega
  have last : ofBytes (bs ++ varint (zig t.length)) ++ ofBytes t = ofBytes (bs ++ (varint (zig t.length) ++ t)) := by rw [← ofBytes_append, List.append_assoc]
  unfold evF
  simp only [p34]
  by_cases h0 : t = []
  · subst h0
    simp at h e1 last
    simp [h, e1]
    have e2 : bs.length + (varint (zig 0)).length ≤ 1099511627776 := e1
    simp [show ofBytes [] = [] from rfl]
  · have h1 : ofBytes t ≠ [] := by simpa [ofBytes] using h0
    simp [h, e1, h1, last]

end Go.Proofs.YtflciaomdlgjpaaGreatDoor.VVE.Obj

namespace Go.Proofs.YtflciaomdlgjpaaGreatDoor.VVE.Obj
open Go Go.Proofs.YtflciaomdlgjpaaGreatDoor.VVE

def byteAt (d k : Nat) : UInt8 := UInt8.ofNat (d / 2 ^ (8 * k))

def bytes8 (d : Nat) : List UInt8 := [byteAt d 0, byteAt d 1, byteAt d 2, byteAt d 3, byteAt d 4, byteAt d 5, byteAt d 6, byteAt d 7]

theorem shr8 (d k : Nat) (h : k ≤ 64) : IntKind.u8.wrap ((d : Int).fdiv (2 ^ min k IntKind.u64.bits)) = ((d / 2 ^ k % 256 : Nat) : Int) := by
  have e : min k IntKind.u64.bits = k := Nat.min_eq_left h
  have e' : (2 : Int) ^ k = ((2 ^ k : Nat) : Int) := by simp
  rw [e, e', Int.fdiv_eq_ediv_of_nonneg _ (Int.natCast_nonneg _), ← Int.natCast_ediv, wrap_u8]

def body11 : IC := match p11.body with | .seq _ (.block _ (.loop c)) => c | _ => .stop
theorem body11_eq : body11 = (match p11.body with | .seq _ (.block _ (.loop c)) => c | _ => .stop) := rfl

def E11 (t6 : V) (d k : Nat) : List V :=
  [.ref 0 0, .int .u64 d, .undef, .undef, .undef, .int .i64 k, t6, .undef, .undef, .undef, .undef, .undef, .undef, .undef, .undef, .undef, .undef, .undef, .undef, .undef, .undef, .undef, .undef]

theorem round11 (call : VVE.Call) (n d k : Nat) (hk : k < 8) (bs : List UInt8) (hb : bs.length < 2 ^ 38) (fl : V) (rest : List Obj') :
    evC call n body11 { env := E11 .undef d k, heap := .cells [.sl true (ofBytes bs), fl] :: rest } =
      some (.normal, { env := E11 .undef d (k + 1), heap := .cells [.sl true (ofBytes (bs ++ [byteAt d k])), fl] :: rest }) := by
  have h1 : (k : Int) < 8 := by omega
  have h2 : bs.length + 1 ≤ 1099511627776 := by omega
  have w1 : IntKind.i64.wrap (8 * (k : Int)) = ((8 * k : Nat) : Int) := by
    simp [IntKind.wrap, IntKind.bits, IntKind.signed]
    omega
  have w2 : IntKind.i64.wrap ((k : Int) + 1) = ((k + 1 : Nat) : Int) := by
    simp [IntKind.wrap, IntKind.bits, IntKind.signed]
    omega
  have w3 : ¬ ((8 * k : Nat) : Int) < 0 := by omega
  have w4 : ((8 * k : Nat) : Int).toNat = 8 * k := by omega
  have h3 := shr8 d (8 * k) (by omega)
  have h4 : [V.int .u8 ((d / 2 ^ (8 * k) % 256 : Nat) : Int)] = ofBytes [byteAt d k] := by
    rw [byte_eq _ (by omega)]
    simp [byteAt, ofBytes]
  generalize 8 * k = m at w1 w3 w4 h3 h4
  generalize d / 2 ^ m % 256 = y at h3 h4
  simp only [body11_eq, p11, E11]
  simp [h1, h2, w1, w2, w3, w4, h3, ofBytes_append]
  exact h4

theorem exit11 (call : VVE.Call) (n d : Nat) (h : List Obj') : evC call n body11 { env := E11 .undef d 8, heap := h } = some (.exit 0, { env := E11 (.bool false) d 8, heap := h }) := by
  simp only [body11_eq, p11, E11]
  simp

theorem long_run (call : VVE.Call) (n d : Nat) (bs : List UInt8) (hb : bs.length < 2 ^ 37) (fl : V) (rest : List Obj') :
    evF call (n + 10) p11 [.ref 0 0, .int .u64 d] (.cells [.sl true (ofBytes bs), fl] :: rest) = some (.tup [], .cells [.sl true (ofBytes (bs ++ bytes8 d)), fl] :: rest) := by
  have key : iter (evC call (n + 10) body11) (n + 10) { env := E11 .undef d 0, heap := .cells [.sl true (ofBytes bs), fl] :: rest } =
      some (.exit 0, { env := E11 (.bool false) d 8, heap := .cells [.sl true (ofBytes (bs ++ bytes8 d)), fl] :: rest }) := by
    rw [iter_succ, round11 _ _ _ 0 (by omega) _ (by simp; omega), loopC_normal]
    rw [iter_succ, round11 _ _ _ 1 (by omega) _ (by simp; omega), loopC_normal]
    rw [iter_succ, round11 _ _ _ 2 (by omega) _ (by simp; omega), loopC_normal]
    rw [iter_succ, round11 _ _ _ 3 (by omega) _ (by simp; omega), loopC_normal]
    rw [iter_succ, round11 _ _ _ 4 (by omega) _ (by simp; omega), loopC_normal]
    rw [iter_succ, round11 _ _ _ 5 (by omega) _ (by simp; omega), loopC_normal]
    rw [iter_succ, round11 _ _ _ 6 (by omega) _ (by simp; omega), loopC_normal]
    rw [iter_succ, round11 _ _ _ 7 (by omega) _ (by simp; omega), loopC_normal]
    rw [iter_succ, exit11, loopC_exit]
    simp [bytes8]
  simp only [body11_eq, p11, E11] at key
  unfold evF
  simp only [p11]
  simp at key
  simp [evC_loop, key]

end Go.Proofs.YtflciaomdlgjpaaGreatDoor.VVE.Obj

namespace Go.Proofs.YtflciaomdlgjpaaGreatDoor.VVE.Obj
open Go Go.Proofs.YtflciaomdlgjpaaGreatDoor.VVE

def txt (t : List UInt8) : List UInt8 := varint (zig t.length) ++ t
def num (x : Int) : List UInt8 := varint (zig x)

theorem num0 : num 0 = [0] := by unfold num varint; simp [zig]
theorem num1 : num 1 = [2] := by unfold num varint; simp [zig]

theorem num_length {x : Int} (h0 : -(2 ^ 63) ≤ x) (h1 : x < 2 ^ 63) : (num x).length ≤ 10 := varint_length 9 _ (Nat.lt_of_lt_of_le (zig_lt h0 h1) (by decide))

theorem txt_length {t : List UInt8} (h : t.length < 2 ^ 30) : (txt t).length ≤ t.length + 10 := by
  have := num_length (x := t.length) (by omega) (by omega)
  unfold num at this
  simp [txt]
  omega

def TextOk (call : VVE.Call) : Prop := ∀ (t : List UInt8), t.length < 2 ^ 30 → ∀ (bs : List UInt8), bs.length < 2 ^ 37 → ∀ (fl : V) (rest : List Obj'),
  call 34 [.ref 0 0, .str t] (.cells [.sl true (ofBytes bs), fl] :: rest) = some (.tup [], .cells [.sl true (ofBytes (bs ++ txt t)), fl] :: rest)

def TruthOk (call : VVE.Call) : Prop := ∀ (a b app : Bool) (bs : List UInt8), bs.length < 2 ^ 37 → ∀ (fl : V) (rest : List Obj'),
  call 79 [.ref 0 0, .sl app [.bool a, .bool b]] (.cells [.sl true (ofBytes bs), fl] :: rest) = some (.tup [], .cells [.sl true (ofBytes (bs ++ [if a then 2 else 0] ++ [if b then 2 else 0])), fl] :: rest)

def LongOk (call : VVE.Call) : Prop := ∀ (d : Nat) (bs : List UInt8), bs.length < 2 ^ 37 → ∀ (fl : V) (rest : List Obj'),
  call 11 [.ref 0 0, .int .u64 d] (.cells [.sl true (ofBytes bs), fl] :: rest) = some (.tup [], .cells [.sl true (ofBytes (bs ++ bytes8 d)), fl] :: rest)

/-- An empty list is written. -/
def NilOk (call : VVE.Call) (f : Nat) : Prop := ∀ (app : Bool) (k : Nat) (a b : List V) (bs : List UInt8), bs.length < 2 ^ 37 → ∀ (fl : V) (rest : List Obj'),
  call f [.ref 0 0, .sl app [], .clo k a b] (.cells [.sl true (ofBytes bs), fl] :: rest) = some (.tup [], .cells [.sl true (ofBytes (bs ++ [0])), fl] :: rest)

theorem nil183 (call : VVE.Call) (H : NumbersOk call) (n : Nat) (app : Bool) (k : Nat) (a b : List V) (bs : List UInt8) (hb : bs.length < 2 ^ 37) (fl : V) (rest : List Obj') :
    evF call (n + 3) p183 [.ref 0 0, .sl app [], .clo k a b] (.cells [.sl true (ofBytes bs), fl] :: rest) = some (.tup [], .cells [.sl true (ofBytes (bs ++ [0])), fl] :: rest) := by
  have h := fun app => H 0 (by omega) (by omega) app bs (by omega) fl rest
  rw [show varint (zig 0) = [0] from num0] at h
  unfold evF
  simp only [p183]
  simp [evC_loop, iter_succ, h]

theorem nil81 (call : VVE.Call) (H : NumbersOk call) (n : Nat) (app : Bool) (k : Nat) (a b : List V) (bs : List UInt8) (hb : bs.length < 2 ^ 37) (fl : V) (rest : List Obj') :
    evF call (n + 3) p81 [.ref 0 0, .sl app [], .clo k a b] (.cells [.sl true (ofBytes bs), fl] :: rest) = some (.tup [], .cells [.sl true (ofBytes (bs ++ [0])), fl] :: rest) := by
  have h := fun app => H 0 (by omega) (by omega) app bs (by omega) fl rest
  rw [show varint (zig 0) = [0] from num0] at h
  unfold evF
  simp only [p81]
  simp [evC_loop, iter_succ, h]

theorem nil83 (call : VVE.Call) (H : NumbersOk call) (n : Nat) (app : Bool) (k : Nat) (a b : List V) (bs : List UInt8) (hb : bs.length < 2 ^ 37) (fl : V) (rest : List Obj') :
    evF call (n + 3) p83 [.ref 0 0, .sl app [], .clo k a b] (.cells [.sl true (ofBytes bs), fl] :: rest) = some (.tup [], .cells [.sl true (ofBytes (bs ++ [0])), fl] :: rest) := by
  have h := fun app => H 0 (by omega) (by omega) app bs (by omega) fl rest
  rw [show varint (zig 0) = [0] from num0] at h
  unfold evF
  simp only [p83]
  simp [evC_loop, iter_succ, h]

theorem nil88 (call : VVE.Call) (H : NumbersOk call) (n : Nat) (app : Bool) (k : Nat) (a b : List V) (bs : List UInt8) (hb : bs.length < 2 ^ 37) (fl : V) (rest : List Obj') :
    evF call (n + 3) p88 [.ref 0 0, .sl app [], .clo k a b] (.cells [.sl true (ofBytes bs), fl] :: rest) = some (.tup [], .cells [.sl true (ofBytes (bs ++ [0])), fl] :: rest) := by
  have h := fun app => H 0 (by omega) (by omega) app bs (by omega) fl rest
  rw [show varint (zig 0) = [0] from num0] at h
  unfold evF
  simp only [p88]
  simp [evC_loop, iter_succ, h]

theorem nil92 (call : VVE.Call) (H : NumbersOk call) (n : Nat) (app : Bool) (k : Nat) (a b : List V) (bs : List UInt8) (hb : bs.length < 2 ^ 37) (fl : V) (rest : List Obj') :
    evF call (n + 3) p92 [.ref 0 0, .sl app [], .clo k a b] (.cells [.sl true (ofBytes bs), fl] :: rest) = some (.tup [], .cells [.sl true (ofBytes (bs ++ [0])), fl] :: rest) := by
  have h := fun app => H 0 (by omega) (by omega) app bs (by omega) fl rest
  rw [show varint (zig 0) = [0] from num0] at h
  unfold evF
  simp only [p92]
  simp [evC_loop, iter_succ, h]

theorem nil98 (call : VVE.Call) (H : NumbersOk call) (n : Nat) (app : Bool) (k : Nat) (a b : List V) (bs : List UInt8) (hb : bs.length < 2 ^ 37) (fl : V) (rest : List Obj') :
    evF call (n + 3) p98 [.ref 0 0, .sl app [], .clo k a b] (.cells [.sl true (ofBytes bs), fl] :: rest) = some (.tup [], .cells [.sl true (ofBytes (bs ++ [0])), fl] :: rest) := by
  have h := fun app => H 0 (by omega) (by omega) app bs (by omega) fl rest
  rw [show varint (zig 0) = [0] from num0] at h
  unfold evF
  simp only [p98]
  simp [evC_loop, iter_succ, h]

theorem nil26 (call : VVE.Call) (H : NumbersOk call) (n : Nat) (app : Bool) (k : Nat) (a b : List V) (bs : List UInt8) (hb : bs.length < 2 ^ 37) (fl : V) (rest : List Obj') :
    evF call (n + 3) p26 [.ref 0 0, .sl app [], .clo k a b] (.cells [.sl true (ofBytes bs), fl] :: rest) = some (.tup [], .cells [.sl true (ofBytes (bs ++ [0])), fl] :: rest) := by
  have h := fun app => H 0 (by omega) (by omega) app bs (by omega) fl rest
  rw [show varint (zig 0) = [0] from num0] at h
  unfold evF
  simp only [p26]
  simp [evC_loop, iter_succ, h]

theorem nil28 (call : VVE.Call) (H : NumbersOk call) (n : Nat) (app : Bool) (k : Nat) (a b : List V) (bs : List UInt8) (hb : bs.length < 2 ^ 37) (fl : V) (rest : List Obj') :
    evF call (n + 3) p28 [.ref 0 0, .sl app [], .clo k a b] (.cells [.sl true (ofBytes bs), fl] :: rest) = some (.tup [], .cells [.sl true (ofBytes (bs ++ [0])), fl] :: rest) := by
  have h := fun app => H 0 (by omega) (by omega) app bs (by omega) fl rest
  rw [show varint (zig 0) = [0] from num0] at h
  unfold evF
  simp only [p28]
  simp [evC_loop, iter_succ, h]


theorem texts_run (call : VVE.Call) (H : NilOk call 183) (n : Nat) (app : Bool) (bs : List UInt8) (hb : bs.length < 2 ^ 37) (fl : V) (rest : List Obj') :
    evF call n p80 [.ref 0 0, .sl app []] (.cells [.sl true (ofBytes bs), fl] :: rest) = some (.tup [], .cells [.sl true (ofBytes (bs ++ [0])), fl] :: rest) := by
  have h := H false 34 [.ref 0 0] [] bs hb fl rest
  unfold evF
  simp only [p80]
  simp [h]

def TextsOk (call : VVE.Call) : Prop := ∀ (app : Bool) (bs : List UInt8), bs.length < 2 ^ 37 → ∀ (fl : V) (rest : List Obj'),
  call 80 [.ref 0 0, .sl app []] (.cells [.sl true (ofBytes bs), fl] :: rest) = some (.tup [], .cells [.sl true (ofBytes (bs ++ [0])), fl] :: rest)

def box0 : Obj' := .cells [.ref 0 0]

theorem import_run (call : VVE.Call) (H1 : TextOk call) (H2 : NumbersOk call) (n : Nat) (t : List UInt8) (ht : t.length < 2 ^ 30) (x : Int) (h0 : -(2 ^ 63) ≤ x) (h1 : x < 2 ^ 63) (bs : List UInt8) (hb : bs.length < 2 ^ 36) (fl : V) (X : Obj') (rest : List Obj') :
    evF call n p76 [.agg [.str t, .int .i64 x], .ref 2 0] (.cells [.sl true (ofBytes bs), fl] :: X :: box0 :: rest) =
      some (.tup [], .cells [.sl true (ofBytes (bs ++ txt t ++ num x)), fl] :: X :: box0 :: rest) := by
  have l1 := txt_length ht
  have h2 := H1 t ht bs (by omega) fl (X :: box0 :: rest)
  have h3 := H2 x h0 h1 true (bs ++ txt t) (by simp; omega) fl (X :: box0 :: rest)
  unfold evF
  simp only [p76, box0] at *
  simp at h2 h3
  simp [h2, h3, num]

def ImportOk (call : VVE.Call) : Prop := ∀ (t : List UInt8), t.length < 2 ^ 30 → ∀ (x : Int), -(2 ^ 63) ≤ x → x < 2 ^ 63 → ∀ (bs : List UInt8), bs.length < 2 ^ 36 → ∀ (fl : V) (X : Obj') (rest : List Obj'),
  call 76 [.agg [.str t, .int .i64 x], .ref 2 0] (.cells [.sl true (ofBytes bs), fl] :: X :: box0 :: rest) = some (.tup [], .cells [.sl true (ofBytes (bs ++ txt t ++ num x)), fl] :: X :: box0 :: rest)

theorem imports_run (call : VVE.Call) (H2 : NumbersOk call) (H1 : ImportOk call) (t : List UInt8) (ht : t.length < 2 ^ 30) (x : Int) (h0 : -(2 ^ 63) ≤ x) (h1 : x < 2 ^ 63) (bs : List UInt8) (hb : bs.length < 2 ^ 35) (fl : V) (X : Obj') (rest : List Obj') (n : Nat) (app : Bool) :
    evF call (n + 4) p75 [.ref 0 0, .sl app [.agg [.str t, .int .i64 x]], .clo 76 [] [.ref 2 0]] (.cells [.sl true (ofBytes bs), fl] :: X :: box0 :: rest) =
      some (.tup [], .cells [.sl true (ofBytes (bs ++ [2] ++ txt t ++ num x)), fl] :: X :: box0 :: rest) := by
  have h3 := H2 1 (by omega) (by omega) true bs (by omega) fl (X :: box0 :: rest)
  rw [show varint (zig 1) = [2] from num1] at h3
  have h4 := H1 t ht x h0 h1 (bs ++ [2]) (by simp; omega) fl X rest
  unfold evF
  simp only [p75]
  simp at h4
  simp [evC_loop, iter_succ, h3, h4]

theorem struct_run (call : VVE.Call) (H1 : TextOk call) (H2 : NumbersOk call) (H3 : TruthOk call) (H4 : TextsOk call) (H5 : NilOk call 81) (n : Nat) (t : List UInt8) (ht : t.length < 2 ^ 30) (x : Int) (h0 : -(2 ^ 63) ≤ x) (h1 : x < 2 ^ 63)
    (a1 a2 : Bool) (bs : List UInt8) (hb : bs.length < 2 ^ 35) (fl : V) (X : Obj') (rest : List Obj') :
    evF call n p78 [.agg [.int .i64 x, .bool false, .bool false, .str t, .sl a1 [], .sl a2 []], .ref 2 0] (.cells [.sl true (ofBytes bs), fl] :: X :: box0 :: rest) =
      some (.tup [], .cells [.sl true (ofBytes (bs ++ num x ++ [0, 0] ++ txt t ++ [0, 0])), fl] :: X :: box0 :: rest) := by
  have l1 := txt_length ht
  have l2 := num_length h0 h1
  have k1 := H2 x h0 h1 true bs (by omega) fl (X :: box0 :: rest)
  rw [show varint (zig x) = num x from rfl] at k1
  have k2 := H3 false false true (bs ++ num x) (by simp; omega) fl (X :: box0 :: rest)
  have k3 := H1 t ht (bs ++ num x ++ [0, 0]) (by simp; omega) fl (X :: box0 :: rest)
  have k4 := H4 false (bs ++ num x ++ [0, 0] ++ txt t) (by simp; omega) fl (X :: box0 :: rest)
  have k5 := H5 false 82 [] [.ref 2 0] (bs ++ num x ++ [0, 0] ++ txt t ++ [0]) (by simp; omega) fl (X :: box0 :: rest)
  unfold evF
  simp only [p78, box0] at *
  simp at k1 k2 k3 k4 k5
  simp [k1, k2, k3, k4, k5]

def StructOk (call : VVE.Call) : Prop := ∀ (t : List UInt8), t.length < 2 ^ 30 → ∀ (x : Int), -(2 ^ 63) ≤ x → x < 2 ^ 63 → ∀ (a1 a2 : Bool) (bs : List UInt8), bs.length < 2 ^ 35 → ∀ (fl : V) (X : Obj') (rest : List Obj'),
  call 78 [.agg [.int .i64 x, .bool false, .bool false, .str t, .sl a1 [], .sl a2 []], .ref 2 0] (.cells [.sl true (ofBytes bs), fl] :: X :: box0 :: rest) =
    some (.tup [], .cells [.sl true (ofBytes (bs ++ num x ++ [0, 0] ++ txt t ++ [0, 0])), fl] :: X :: box0 :: rest)

theorem structs_run (call : VVE.Call) (H2 : NumbersOk call) (H1 : StructOk call) (t : List UInt8) (ht : t.length < 2 ^ 30) (x : Int) (h0 : -(2 ^ 63) ≤ x) (h1 : x < 2 ^ 63) (a1 a2 : Bool) (bs : List UInt8) (hb : bs.length < 2 ^ 34) (fl : V) (X : Obj') (rest : List Obj') (n : Nat) (app : Bool) :
    evF call (n + 4) p77 [.ref 0 0, .sl app [.agg [.int .i64 x, .bool false, .bool false, .str t, .sl a1 [], .sl a2 []]], .clo 78 [] [.ref 2 0]] (.cells [.sl true (ofBytes bs), fl] :: X :: box0 :: rest) =
      some (.tup [], .cells [.sl true (ofBytes (bs ++ [2] ++ (num x ++ [0, 0] ++ txt t ++ [0, 0]))), fl] :: X :: box0 :: rest) := by
  have h3 := H2 1 (by omega) (by omega) true bs (by omega) fl (X :: box0 :: rest)
  rw [show varint (zig 1) = [2] from num1] at h3
  have h4 := H1 t ht x h0 h1 false false (bs ++ [2]) (by simp; omega) fl X rest
  unfold evF
  simp only [p77]
  simp at h4
  simp [evC_loop, iter_succ, h3, h4]

theorem against_run (call : VVE.Call) (H1 : TextOk call) (H2 : NumbersOk call) (H3 : LongOk call) (n : Nat) (t : List UInt8) (ht : t.length < 2 ^ 30) (x : Int) (h0 : -(2 ^ 63) ≤ x) (h1 : x < 2 ^ 63) (d : Nat) (bs : List UInt8) (hb : bs.length < 2 ^ 36) (fl : V) (rest : List Obj') :
    evF call n p33 [.agg [.str t, .int .i64 x, .int .u64 d], .ref 1 0] (.cells [.sl true (ofBytes bs), fl] :: box0 :: rest) =
      some (.tup [], .cells [.sl true (ofBytes (bs ++ txt t ++ num x ++ bytes8 d)), fl] :: box0 :: rest) := by
  have l1 := txt_length ht
  have l2 := num_length h0 h1
  have h2 := H1 t ht bs (by omega) fl (box0 :: rest)
  have h3 := H2 x h0 h1 true (bs ++ txt t) (by simp; omega) fl (box0 :: rest)
  rw [show varint (zig x) = num x from rfl] at h3
  have h4 := H3 d (bs ++ txt t ++ num x) (by simp; omega) fl (box0 :: rest)
  unfold evF
  simp only [p33, box0] at *
  simp at h2 h3 h4
  simp [h2, h3, h4]

def AgainstOk (call : VVE.Call) : Prop := ∀ (t : List UInt8), t.length < 2 ^ 30 → ∀ (x : Int), -(2 ^ 63) ≤ x → x < 2 ^ 63 → ∀ (d : Nat) (bs : List UInt8), bs.length < 2 ^ 36 → ∀ (fl : V) (rest : List Obj'),
  call 33 [.agg [.str t, .int .i64 x, .int .u64 d], .ref 1 0] (.cells [.sl true (ofBytes bs), fl] :: box0 :: rest) = some (.tup [], .cells [.sl true (ofBytes (bs ++ txt t ++ num x ++ bytes8 d)), fl] :: box0 :: rest)

theorem againsts_run (call : VVE.Call) (H2 : NumbersOk call) (H1 : AgainstOk call) (t : List UInt8) (ht : t.length < 2 ^ 30) (x : Int) (h0 : -(2 ^ 63) ≤ x) (h1 : x < 2 ^ 63) (d : Nat) (bs : List UInt8) (hb : bs.length < 2 ^ 35) (fl : V) (rest : List Obj') (n : Nat) (app : Bool) :
    evF call (n + 4) p32 [.ref 0 0, .sl app [.agg [.str t, .int .i64 x, .int .u64 d]], .clo 33 [] [.ref 1 0]] (.cells [.sl true (ofBytes bs), fl] :: box0 :: rest) =
      some (.tup [], .cells [.sl true (ofBytes (bs ++ [2] ++ (txt t ++ num x ++ bytes8 d))), fl] :: box0 :: rest) := by
  have h3 := H2 1 (by omega) (by omega) true bs (by omega) fl (box0 :: rest)
  rw [show varint (zig 1) = [2] from num1] at h3
  have h4 := H1 t ht x h0 h1 d (bs ++ [2]) (by simp; omega) fl rest
  unfold evF
  simp only [p32]
  simp at h4
  simp [evC_loop, iter_succ, h3, h4]

end Go.Proofs.YtflciaomdlgjpaaGreatDoor.VVE.Obj

namespace Go.Proofs.YtflciaomdlgjpaaGreatDoor.VVE.Obj
open Go Go.Proofs.YtflciaomdlgjpaaGreatDoor.VVE

def ImportsOk (call : VVE.Call) : Prop := ∀ (t : List UInt8), t.length < 2 ^ 30 → ∀ (x : Int), -(2 ^ 63) ≤ x → x < 2 ^ 63 → ∀ (bs : List UInt8), bs.length < 2 ^ 35 → ∀ (fl : V) (X : Obj') (rest : List Obj') (app : Bool),
  call 75 [.ref 0 0, .sl app [.agg [.str t, .int .i64 x]], .clo 76 [] [.ref 2 0]] (.cells [.sl true (ofBytes bs), fl] :: X :: box0 :: rest) =
      some (.tup [], .cells [.sl true (ofBytes (bs ++ [2] ++ txt t ++ num x)), fl] :: X :: box0 :: rest)

def StructsOk (call : VVE.Call) : Prop := ∀ (t : List UInt8), t.length < 2 ^ 30 → ∀ (x : Int), -(2 ^ 63) ≤ x → x < 2 ^ 63 → ∀ (a1 a2 : Bool) (bs : List UInt8), bs.length < 2 ^ 34 → ∀ (fl : V) (X : Obj') (rest : List Obj') (app : Bool),
  call 77 [.ref 0 0, .sl app [.agg [.int .i64 x, .bool false, .bool false, .str t, .sl a1 [], .sl a2 []]], .clo 78 [] [.ref 2 0]] (.cells [.sl true (ofBytes bs), fl] :: X :: box0 :: rest) =
      some (.tup [], .cells [.sl true (ofBytes (bs ++ [2] ++ (num x ++ [0, 0] ++ txt t ++ [0, 0]))), fl] :: X :: box0 :: rest)

def AgainstsOk (call : VVE.Call) : Prop := ∀ (t : List UInt8), t.length < 2 ^ 30 → ∀ (x : Int), -(2 ^ 63) ≤ x → x < 2 ^ 63 → ∀ (d : Nat) (bs : List UInt8), bs.length < 2 ^ 35 → ∀ (fl : V) (rest : List Obj') (app : Bool),
  call 32 [.ref 0 0, .sl app [.agg [.str t, .int .i64 x, .int .u64 d]], .clo 33 [] [.ref 1 0]] (.cells [.sl true (ofBytes bs), fl] :: box0 :: rest) =
      some (.tup [], .cells [.sl true (ofBytes (bs ++ [2] ++ (txt t ++ num x ++ bytes8 d))), fl] :: box0 :: rest)

/-- The module of the law, with the marks of its slices. -/
def modV (b : Nat → Bool) (nm t : List UInt8) (r l k : Int) : List V :=
  [.int .i64 1, .str nm, .int .i64 r, .sl (b 0) [.agg [.str t, .int .i64 l]], .sl (b 1) [.agg [.int .i64 k, .bool false, .bool false, .str t, .sl (b 2) [], .sl (b 3) []]], .sl (b 4) [], .sl (b 5) [], .sl (b 6) [], .sl (b 7) []]

def modB (nm t : List UInt8) (r l k : Int) : List UInt8 :=
  num 1 ++ txt nm ++ num r ++ ([2] ++ txt t ++ num l) ++ ([2] ++ (num k ++ [0, 0] ++ txt t ++ [0, 0])) ++ [0, 0, 0, 0]

theorem module_run (call : VVE.Call) (H1 : TextOk call) (H2 : NumbersOk call) (H3 : ImportsOk call) (H4 : StructsOk call) (H5 : NilOk call 83) (H6 : NilOk call 88) (H7 : NilOk call 92) (H8 : NilOk call 98) (n : Nat)
    (b : Nat → Bool) (nm t : List UInt8) (hnm : nm.length < 2 ^ 30) (ht : t.length < 2 ^ 30) (r l k : Int) (hr0 : -(2 ^ 63) ≤ r) (hr1 : r < 2 ^ 63) (hl0 : -(2 ^ 63) ≤ l) (hl1 : l < 2 ^ 63) (hk0 : -(2 ^ 63) ≤ k) (hk1 : k < 2 ^ 63)
    (bs : List UInt8) (hb : bs.length < 2 ^ 33) (fl : V) :
    evF call n p25 [.ref 0 0, .agg (modV b nm t r l k)] [.cells [.sl true (ofBytes bs), fl], box0] = some (.tup [], [.cells [.sl true (ofBytes (bs ++ modB nm t r l k)), fl], box0]) := by
  have l1 := txt_length ht
  have l2 := txt_length hnm
  have l3 := num_length hr0 hr1
  have l4 := num_length hl0 hl1
  have l5 := num_length hk0 hk1
  have l6 := num_length (x := 1) (by omega) (by omega)
  have k1 := H2 1 (by omega) (by omega) true bs (by omega) fl [box0, box0]
  rw [show varint (zig 1) = num 1 from rfl] at k1
  have k2 := H1 nm hnm (bs ++ num 1) (by simp; omega) fl [box0, box0]
  have k3 := H2 r hr0 hr1 true (bs ++ num 1 ++ txt nm) (by simp; omega) fl [box0, box0]
  rw [show varint (zig r) = num r from rfl] at k3
  have k4 := H3 t ht l hl0 hl1 (bs ++ num 1 ++ txt nm ++ num r) (by simp; omega) fl box0 [] false
  have k5 := H4 t ht k hk0 hk1 (b 2) (b 3) (bs ++ num 1 ++ txt nm ++ num r ++ [2] ++ txt t ++ num l) (by simp; omega) fl box0 [] false
  have k6 := H5 false 84 [] [.ref 2 0] (bs ++ num 1 ++ txt nm ++ num r ++ [2] ++ txt t ++ num l ++ [2] ++ (num k ++ [0, 0] ++ txt t ++ [0, 0])) (by simp; omega) fl [box0, box0]
  have k7 := H6 false 89 [] [.ref 2 0] (bs ++ num 1 ++ txt nm ++ num r ++ [2] ++ txt t ++ num l ++ [2] ++ (num k ++ [0, 0] ++ txt t ++ [0, 0]) ++ [0]) (by simp; omega) fl [box0, box0]
  have k8 := H7 false 93 [] [.ref 2 0] (bs ++ num 1 ++ txt nm ++ num r ++ [2] ++ txt t ++ num l ++ [2] ++ (num k ++ [0, 0] ++ txt t ++ [0, 0]) ++ [0] ++ [0]) (by simp; omega) fl [box0, box0]
  have k9 := H8 false 99 [] [.ref 2 0] (bs ++ num 1 ++ txt nm ++ num r ++ [2] ++ txt t ++ num l ++ [2] ++ (num k ++ [0, 0] ++ txt t ++ [0, 0]) ++ [0] ++ [0] ++ [0]) (by simp; omega) fl [box0, box0]
  unfold evF
  simp only [p25, box0, modV, modB] at *
  simp only [List.append_assoc, List.cons_append, List.nil_append] at k1 k2 k3 k4 k5 k6 k7 k8 k9
  simp [k1, k2, k3, k4, k5, k6, k7, k8, k9]

def ModuleOk (call : VVE.Call) : Prop := ∀ (b : Nat → Bool) (nm t : List UInt8), nm.length < 2 ^ 30 → t.length < 2 ^ 30 → ∀ (r l k : Int), -(2 ^ 63) ≤ r → r < 2 ^ 63 → -(2 ^ 63) ≤ l → l < 2 ^ 63 → -(2 ^ 63) ≤ k → k < 2 ^ 63 →
  ∀ (bs : List UInt8), bs.length < 2 ^ 33 → ∀ (fl : V),
    call 25 [.ref 0 0, .agg (modV b nm t r l k)] [.cells [.sl true (ofBytes bs), fl], box0] = some (.tup [], [.cells [.sl true (ofBytes (bs ++ modB nm t r l k)), fl], box0])

/-- The object of the law. -/
def objV (b : Nat → Bool) (nm t : List UInt8) (r l k a : Int) (d : Nat) : List V :=
  [.int .i64 1, .str nm, .int .i64 r, .sl (b 0) [.agg [.str t, .int .i64 l]], .sl (b 1) [.agg [.int .i64 k, .bool false, .bool false, .str t, .sl (b 2) [], .sl (b 3) []]], .sl (b 4) [], .sl (b 5) [], .sl (b 6) [], .sl (b 7) [],
    .sl (b 8) [], .sl (b 9) [], .sl (b 10) [.agg [.str t, .int .i64 a, .int .u64 d]]]

def objB (nm t : List UInt8) (r l k a : Int) (d : Nat) : List UInt8 := modB nm t r l k ++ [0, 0] ++ ([2] ++ (txt t ++ num a ++ bytes8 d))

theorem modB_length {nm t : List UInt8} {r l k : Int} (hnm : nm.length < 2 ^ 30) (ht : t.length < 2 ^ 30) (hr0 : -(2 ^ 63) ≤ r) (hr1 : r < 2 ^ 63) (hl0 : -(2 ^ 63) ≤ l) (hl1 : l < 2 ^ 63) (hk0 : -(2 ^ 63) ≤ k) (hk1 : k < 2 ^ 63) :
    (modB nm t r l k).length ≤ nm.length + 2 * t.length + 80 := by
  have l1 := txt_length ht
  have l2 := txt_length hnm
  have l3 := num_length hr0 hr1
  have l4 := num_length hl0 hl1
  have l5 := num_length hk0 hk1
  have l6 := num_length (x := 1) (by omega) (by omega)
  simp [modB]
  omega

theorem object_run (call : VVE.Call) (H1 : ModuleOk call) (H2 : NilOk call 26) (H3 : NilOk call 28) (H4 : AgainstsOk call) (n : Nat)
    (b : Nat → Bool) (nm t : List UInt8) (hnm : nm.length < 2 ^ 30) (ht : t.length < 2 ^ 30) (r l k a : Int) (hr0 : -(2 ^ 63) ≤ r) (hr1 : r < 2 ^ 63) (hl0 : -(2 ^ 63) ≤ l) (hl1 : l < 2 ^ 63) (hk0 : -(2 ^ 63) ≤ k) (hk1 : k < 2 ^ 63)
    (ha0 : -(2 ^ 63) ≤ a) (ha1 : a < 2 ^ 63) (d : Nat) (bs : List UInt8) (hb : bs.length < 2 ^ 32) (fl : V) :
    evF call n p10 [.ref 0 0, .agg (objV b nm t r l k a d)] [.cells [.sl true (ofBytes bs), fl]] = some (.tup [], [.cells [.sl true (ofBytes (bs ++ objB nm t r l k a d)), fl]]) := by
  have lm := modB_length hnm ht hr0 hr1 hl0 hl1 hk0 hk1
  have k1 := H1 (fun i => if i = 2 ∨ i = 3 then b i else false) nm t hnm ht r l k hr0 hr1 hl0 hl1 hk0 hk1 bs (by omega) fl
  have k2 := H2 false 27 [.ref 0 0] [] (bs ++ modB nm t r l k) (by simp; omega) fl [box0]
  have k3 := H3 false 29 [] [.ref 1 0] (bs ++ modB nm t r l k ++ [0]) (by simp; omega) fl [box0]
  have k4 := H4 t ht a ha0 ha1 d (bs ++ modB nm t r l k ++ [0] ++ [0]) (by simp; omega) fl [] false
  unfold evF
  simp only [p10, box0, modV, objV, objB] at *
  simp only [List.append_assoc, List.cons_append, List.nil_append] at k1 k2 k3 k4
  simp at k1
  simp [k1, k2, k3, k4]

end Go.Proofs.YtflciaomdlgjpaaGreatDoor.VVE.Obj

namespace Go.Proofs.YtflciaomdlgjpaaGreatDoor.VVE.Obj
open Go Go.Proofs.YtflciaomdlgjpaaGreatDoor.VVE

/-- The check sum, from a start. -/
def sumV (s : Int) : List UInt8 → Int
  | [] => s
  | x :: xs => sumV (IntKind.u64.wrap (VVE.bits .xor .u64 s (x.toNat : Int) * 1099511628211)) xs

def body12 : IC := match p12.body with | .seq _ (.seq _ (.seq (.seq _ (.block _ (.loop c))) _)) => c | _ => .stop
theorem body12_eq : body12 = (match p12.body with | .seq _ (.seq _ (.seq (.seq _ (.block _ (.loop c))) _)) => c | _ => .stop) := rfl

def E12 (t9 : V) (l : List UInt8) (s : Int) (j : Nat) : List V :=
  [.undef, .undef, .undef, .int .u64 s, .undef, .undef, .sl false (ofBytes l), .int .i64 l.length, .int .i64 j, t9, .undef, .undef, .undef, .undef, .undef, .undef, .undef, .undef, .undef]

theorem round12 (call : VVE.Call) (n : Nat) (l : List UInt8) (s : Int) (j : Nat) (hl : l.length < 2 ^ 40) (x : UInt8) (hj : l[j]? = some x) (h : List Obj') :
    evC call n body12 { env := E12 .undef l s j, heap := h } = some (.normal, { env := E12 .undef l (IntKind.u64.wrap (VVE.bits .xor .u64 s (x.toNat : Int) * 1099511628211)) (j + 1), heap := h }) := by
  have hlt : j < l.length := (List.getElem?_eq_some_iff.1 hj).1
  have h1 : (j : Int) < l.length := by omega
  have h2 : (ofBytes l)[j]? = some (.int .u8 x.toNat) := by simp [ofBytes, hj]
  have w : IntKind.i64.wrap ((j : Int) + 1) = ((j + 1 : Nat) : Int) := by
    simp [IntKind.wrap, IntKind.bits, IntKind.signed]
    omega
  have w2 : IntKind.u64.wrap (x.toNat : Int) = x.toNat := wrap_u64 (by omega) (by have := x.toNat_lt; omega)
  simp only [body12_eq, p12, E12]
  simp [h1, h2, w, w2]

theorem exit12 (call : VVE.Call) (n : Nat) (l : List UInt8) (s : Int) (h : List Obj') :
    evC call n body12 { env := E12 .undef l s l.length, heap := h } = some (.exit 0, { env := E12 (.bool false) l s l.length, heap := h }) := by
  simp only [body12_eq, p12, E12]
  simp

theorem loop12 (call : VVE.Call) (n : Nat) (l : List UInt8) (hl : l.length < 2 ^ 40) (h : List Obj') : ∀ (r : List UInt8) (j : Nat) (s : Int), l.drop j = r → j ≤ l.length → ∀ k, r.length < k →
    iter (evC call n body12) k { env := E12 .undef l s j, heap := h } = some (.exit 0, { env := E12 (.bool false) l (sumV s r) l.length, heap := h })
  | _, _, _, _, _, 0, hk => by omega
  | [], j, s, hr, hj, k + 1, hk => by
    have : j = l.length := by
      have := congrArg List.length hr
      simp at this
      omega
    subst this
    rw [iter_succ, exit12]
    rfl
  | x :: r, j, s, hr, hj, k + 1, hk => by
    have hx : l[j]? = some x := by
      have := congrArg (·[0]?) hr
      simpa using this
    have hlt : j < l.length := (List.getElem?_eq_some_iff.1 hx).1
    rw [iter_succ, round12 call n l s j hl x hx, loopC_normal]
    refine loop12 call n l hl h r (j + 1) _ ?_ hlt k (by simpa using hk)
    rw [List.drop_add_one_eq_tail_drop, hr]
    rfl

theorem sum_run (call : VVE.Call) (n : Nat) (l : List UInt8) (hn : l.length < n) (hl : l.length < 2 ^ 40) (app : Bool) (h : List Obj') :
    evF call n p12 [.sl app (ofBytes l)] h = some (.int .u64 (sumV 14695981039346656037 l), h) := by
  have k := loop12 call n l hl h l 0 14695981039346656037 rfl (by omega) n hn
  simp only [body12_eq, p12, E12] at k
  unfold evF
  simp only [p12]
  simp at k
  simp [evC_loop, k]

end Go.Proofs.YtflciaomdlgjpaaGreatDoor.VVE.Obj

namespace Go.Proofs.YtflciaomdlgjpaaGreatDoor.VVE.Obj
open Go Go.Proofs.YtflciaomdlgjpaaGreatDoor.VVE

theorem index_run (call : VVE.Call) (n : Nat) (app : Bool) (k : Nat) (a b : List V) (h : List Obj') : evF call (n + 2) p162 [.sl app [], .clo k a b] h = some (.int .i64 (-1), h) := by
  unfold evF
  simp only [p162]
  simp [evC_loop, iter_succ]

theorem contains_run (call : VVE.Call) (n : Nat) (app : Bool) (k : Nat) (a b : List V) (h : List Obj') (H : ∀ app, call 162 [.sl app [], .clo k a b] h = some (.int .i64 (-1), h)) :
    evF call n p61 [.sl app [], .clo k a b] h = some (.bool false, h) := by
  unfold evF
  simp only [p61]
  simp [H]

def SkelOk (call : VVE.Call) : Prop := ∀ (b : Nat → Bool) (nm t : List UInt8) (r l k : Int) (h : List Obj'), call 21 [.agg (modV b nm t r l k)] h = some (.bool true, h)

theorem skel_run (call : VVE.Call) (H : ∀ (app : Bool) (h : List Obj'), call 61 [.sl app [], .clo 62 [] []] h = some (.bool false, h)) (n : Nat) (b : Nat → Bool) (nm t : List UInt8) (r l k : Int) (h : List Obj') :
    evF call n p21 [.agg (modV b nm t r l k)] h = some (.bool true, h) := by
  have H' := fun app => H app h
  unfold evF
  simp only [p21, modV]
  simp [H']

theorem valid_run (call : VVE.Call) (H : SkelOk call) (n : Nat) (b : Nat → Bool) (c : UInt8) (cs t : List UInt8) (r l k a : Int) (d : Nat) (h : List Obj') (hr0 : 0 ≤ r) (hr1 : r ≤ 1000) (ha0 : 1 ≤ a) (ha1 : a ≤ 1000) :
    evF call (n + 3) p9 [.agg (objV b (c :: cs) t r l k a d)] h = some (.int .i64 0, h) := by
  have k1 := H (fun i => if i = 2 ∨ i = 3 then b i else false) (c :: cs) t r l k h
  have e1 : ¬ r < 0 := by omega
  have e2 : ¬ 1000 < r := by omega
  have e3 : ¬ a < 1 := by omega
  have e4 : ¬ 1000 < a := by omega
  have k2 := fun X => H (fun i => if i = 2 ∨ i = 3 then b i else false) (c :: cs) t r l k (h ++ [X])
  unfold evF
  simp only [p9, modV, objV] at *
  simp at k1 k2
  simp [evC_loop, iter_succ, k1, k2, e1, e2, e3, e4]

end Go.Proofs.YtflciaomdlgjpaaGreatDoor.VVE.Obj

namespace Go.Proofs.YtflciaomdlgjpaaGreatDoor.VVE.Obj
open Go Go.Proofs.YtflciaomdlgjpaaGreatDoor.VVE

theorem sumV_nonneg : ∀ (l : List UInt8) (s : Int), 0 ≤ s → 0 ≤ sumV s l
  | [], s, h => h
  | x :: xs, s, h => sumV_nonneg xs _ (by simp [IntKind.wrap, IntKind.bits, IntKind.signed]; omega)

def sumN (l : List UInt8) : Nat := (sumV 14695981039346656037 l).toNat

theorem sumN_eq (l : List UInt8) : sumV 14695981039346656037 l = (sumN l : Int) := by
  have := sumV_nonneg l 14695981039346656037 (by omega)
  unfold sumN
  omega

def SumOk (call : VVE.Call) : Prop := ∀ (l : List UInt8), l.length < 200000 → ∀ (app : Bool) (h : List Obj'), call 12 [.sl app (ofBytes l)] h = some (.int .u64 (sumN l), h)

def ValidOk (call : VVE.Call) : Prop := ∀ (b : Nat → Bool) (c : UInt8) (cs t : List UInt8) (r l k a : Int) (d : Nat) (h : List Obj'), 0 ≤ r → r ≤ 1000 → 1 ≤ a → a ≤ 1000 →
  call 9 [.agg (objV b (c :: cs) t r l k a d)] h = some (.int .i64 0, h)

def ObjectOk (call : VVE.Call) : Prop := ∀ (b : Nat → Bool) (nm t : List UInt8), nm.length < 2 ^ 30 → t.length < 2 ^ 30 → ∀ (r l k a : Int), -(2 ^ 63) ≤ r → r < 2 ^ 63 → -(2 ^ 63) ≤ l → l < 2 ^ 63 → -(2 ^ 63) ≤ k → k < 2 ^ 63 →
  -(2 ^ 63) ≤ a → a < 2 ^ 63 → ∀ (d : Nat) (bs : List UInt8), bs.length < 2 ^ 32 → ∀ (fl : V),
    call 10 [.ref 0 0, .agg (objV b nm t r l k a d)] [.cells [.sl true (ofBytes bs), fl]] = some (.tup [], [.cells [.sl true (ofBytes (bs ++ objB nm t r l k a d)), fl]])

def magic : List UInt8 := [76, 69, 79, 1]

/-- The encoding of the law's object. -/
def encB (nm t : List UInt8) (r l k a : Int) (d : Nat) : List UInt8 := magic ++ objB nm t r l k a d ++ bytes8 (sumN (magic ++ objB nm t r l k a d))

theorem objB_length {nm t : List UInt8} {r l k a : Int} (d : Nat) (hnm : nm.length < 2 ^ 30) (ht : t.length < 2 ^ 30) (hr0 : -(2 ^ 63) ≤ r) (hr1 : r < 2 ^ 63) (hl0 : -(2 ^ 63) ≤ l) (hl1 : l < 2 ^ 63) (hk0 : -(2 ^ 63) ≤ k) (hk1 : k < 2 ^ 63)
    (ha0 : -(2 ^ 63) ≤ a) (ha1 : a < 2 ^ 63) : (objB nm t r l k a d).length ≤ nm.length + 3 * t.length + 120 := by
  have lm := modB_length hnm ht hr0 hr1 hl0 hl1 hk0 hk1
  have l1 := txt_length ht
  have l3 := num_length ha0 ha1
  simp [objB, bytes8]
  omega

theorem encode_run (call : VVE.Call) (H1 : ValidOk call) (H2 : ObjectOk call) (H3 : SumOk call) (H4 : LongOk call) (n : Nat) (b : Nat → Bool) (c : UInt8) (cs t : List UInt8) (hnm : cs.length < 1000) (ht : t.length < 1000) (r l k a : Int) (d : Nat)
    (hr0 : 0 ≤ r) (hr1 : r ≤ 1000) (hl0 : -(2 ^ 63) ≤ l) (hl1 : l < 2 ^ 63) (hk0 : -(2 ^ 63) ≤ k) (hk1 : k < 2 ^ 63) (ha0 : 1 ≤ a) (ha1 : a ≤ 1000) :
    evF call n p5 [.agg (objV b (c :: cs) t r l k a d)] [] = some (.tup [.sl false (ofBytes (encB (c :: cs) t r l k a d)), .int .i64 0], []) := by
  have lo := objB_length (nm := c :: cs) (t := t) (r := r) (l := l) (k := k) (a := a) d (by simp; omega) (by omega) (by omega) (by omega) hl0 hl1 hk0 hk1 (by omega) (by omega)
  simp only [List.length_cons] at lo
  have k1 := H1 (fun i => if i = 2 ∨ i = 3 then b i else false) c cs t r l k a d [] hr0 hr1 ha0 ha1
  have k2 := H2 (fun i => if i = 2 ∨ i = 3 then b i else false) (c :: cs) t (by simp; omega) (by omega) r l k a (by omega) (by omega) hl0 hl1 hk0 hk1 (by omega) (by omega) d magic (by simp [magic]) (.bool false)
  have k3 := H3 (magic ++ objB (c :: cs) t r l k a d) (by simp [magic]; omega) false [.cells [.sl true (ofBytes (magic ++ objB (c :: cs) t r l k a d)), .bool false]]
  have k4 := H4 (sumN (magic ++ objB (c :: cs) t r l k a d)) (magic ++ objB (c :: cs) t r l k a d) (by simp [magic]; omega) (.bool false) []
  have hm : ofBytes magic = [.int .u8 76, .int .u8 69, .int .u8 79, .int .u8 1] := rfl
  have hX : (magic ++ objB (c :: cs) t r l k a d).length < 190000 := by simp [magic]; omega
  unfold encB
  generalize magic ++ objB (c :: cs) t r l k a d = X at *
  have lw : IntKind.i64.wrap ((X.length : Int) + 8) = (X.length : Int) + 8 := by
    simp [IntKind.wrap, IntKind.bits, IntKind.signed]
    omega
  have lx : ¬ (200000 : Int) < (X.length : Int) + 8 := by omega
  unfold evF
  simp only [p5, objV] at *
  rw [hm] at k2
  simp at k1 k2
  simp [k1, k2, k3, k4, lw, lx]

end Go.Proofs.YtflciaomdlgjpaaGreatDoor.VVE.Obj

