/-
  The reader's functions, in the small form's evaluator.
-/
import Derived.Test.YtflciaomdlgjpaaGreatDoorW1
set_option linter.unusedVariables false
set_option linter.unusedSimpArgs false
namespace Go.Proofs.YtflciaomdlgjpaaGreatDoor.VVE.Obj
open Go Go.Proofs.YtflciaomdlgjpaaGreatDoor.VVE

def body161 : IC := match p161.body with | .seq _ (.seq _ (.seq (.seq _ (.block _ (.loop c))) _)) => c | _ => .stop
theorem body161_eq : body161 = (match p161.body with | .seq _ (.seq _ (.seq (.seq _ (.block _ (.loop c))) _)) => c | _ => .stop) := rfl

def E161 (t12 : V) (l : List UInt8) (u : Nat) (j : Nat) : List V :=
  [.ref 0 0, .undef, .undef, .int .u64 u, .undef, .undef, .undef, .undef, .undef, .sl false (ofBytes l), .int .i64 l.length, .int .i64 j, t12] ++ List.replicate 48 .undef

theorem and127b (x : UInt8) : VVE.bits .and .u8 (x.toNat : Int) 127 = (x.toNat % 128 : Nat) := by
  have key : ∀ y : BitVec 8, (y &&& 127#8).toNat = y.toNat % 128 := by decide
  have e1 : BitVec.ofInt 8 (x.toNat : Int) = BitVec.ofNat 8 x.toNat := by simp
  have e2 : BitVec.ofInt 8 127 = 127#8 := by decide
  have hx := x.toNat_lt
  have : (BitVec.ofInt 8 (x.toNat : Int) &&& BitVec.ofInt 8 127).toNat = x.toNat % 128 := by
    rw [e1, e2, key, BitVec.toNat_ofNat, Nat.mod_eq_of_lt (show x.toNat < 2 ^ 8 from hx)]
  unfold VVE.bits
  show IntKind.u8.wrap ((BitVec.ofInt 8 (x.toNat : Int) &&& BitVec.ofInt 8 127).toNat : Int) = _
  rw [this, wrap_u8, Nat.mod_eq_of_lt (by omega)]

theorem or_add (u y m : Nat) (hu : u < 2 ^ m) (hy : y * 2 ^ m + u < 2 ^ 64) : VVE.bits .or .u64 (u : Int) ((y * 2 ^ m : Nat) : Int) = (y * 2 ^ m + u : Nat) := by
  have e1 : BitVec.ofInt 64 (u : Int) = BitVec.ofNat 64 u := by simp
  have e2 : BitVec.ofInt 64 ((y * 2 ^ m : Nat) : Int) = BitVec.ofNat 64 (y * 2 ^ m) := BitVec.ofInt_natCast ..
  have : (BitVec.ofInt 64 (u : Int) ||| BitVec.ofInt 64 ((y * 2 ^ m : Nat) : Int)).toNat = y * 2 ^ m + u := by
    rw [e1, e2, BitVec.toNat_or, BitVec.toNat_ofNat, BitVec.toNat_ofNat, Nat.mod_eq_of_lt (by omega), Nat.mod_eq_of_lt (by omega), Nat.or_comm, ← Nat.shiftLeft_eq, Nat.shiftLeft_add_eq_or_of_lt hu]
  unfold VVE.bits
  show IntKind.u64.wrap ((BitVec.ofInt 64 (u : Int) ||| BitVec.ofInt 64 ((y * 2 ^ m : Nat) : Int)).toNat : Int) = _
  rw [this, wrap_u64 (by omega) (by omega)]

theorem shl_val (y m : Nat) (hm : m ≤ 64) (hy : y * 2 ^ m < 2 ^ 64) : IntKind.u64.wrap ((y : Int) * 2 ^ min m IntKind.u64.bits) = ((y * 2 ^ m : Nat) : Int) := by
  have e : min m IntKind.u64.bits = m := Nat.min_eq_left hm
  have e' : (y : Int) * 2 ^ m = ((y * 2 ^ m : Nat) : Int) := by simp
  rw [e, e', wrap_u64 (by omega) (by omega)]

theorem round161 (call : VVE.Call) (n : Nat) (l : List UInt8) (u j : Nat) (hl : l.length < 2 ^ 40) (x : UInt8) (hj : l[j]? = some x) (hj9 : j < 9) (hx : 128 ≤ x.toNat) (hu : u < 2 ^ (7 * j)) (h : List Obj') :
    evC call n body161 { env := E161 .undef l u j, heap := h } = some (.normal, { env := E161 .undef l (x.toNat % 128 * 2 ^ (7 * j) + u) (j + 1), heap := h }) := by
  have hlt : j < l.length := (List.getElem?_eq_some_iff.1 hj).1
  have h1 : (j : Int) < l.length := by omega
  have h2 : (ofBytes l)[j]? = some (.int .u8 x.toNat) := by simp [ofBytes, hj]
  have h3 : ((j : Int) == 9) = false := by simp; omega
  have h4 : ((x.toNat : Int) == 0) = false := by simp; omega
  have h5 : ¬ (x.toNat : Int) < 128 := by omega
  have w : IntKind.i64.wrap ((j : Int) + 1) = ((j + 1 : Nat) : Int) := by
    simp [IntKind.wrap, IntKind.bits, IntKind.signed]
    omega
  have w3 : IntKind.i64.wrap (7 * (j : Int)) = ((7 * j : Nat) : Int) := by
    simp [IntKind.wrap, IntKind.bits, IntKind.signed]
    omega
  have hb : x.toNat % 128 * 2 ^ (7 * j) + u < 2 ^ 63 := by
    have h1 : 2 ^ (7 * j) ≤ 2 ^ 56 := Nat.pow_le_pow_right (by omega) (by omega)
    have h2 : x.toNat % 128 * 2 ^ (7 * j) + u < (x.toNat % 128 + 1) * 2 ^ (7 * j) := by rw [Nat.add_mul]; omega
    have h3 : (x.toNat % 128 + 1) * 2 ^ (7 * j) ≤ 128 * 2 ^ 56 := Nat.mul_le_mul (by omega) h1
    omega
  have a1 := and127b x
  have a2 : IntKind.u64.wrap ((x.toNat % 128 : Nat) : Int) = ((x.toNat % 128 : Nat) : Int) := wrap_u64 (by omega) (by omega)
  have a3 := shl_val (x.toNat % 128) (7 * j) (by omega) (by omega)
  have a4 := or_add u (x.toNat % 128) (7 * j) hu (by omega)
  have a5 : ¬ ((7 * j : Nat) : Int) < 0 := by omega
  have a6 : ((7 * j : Nat) : Int).toNat = 7 * j := by omega
  generalize x.toNat % 128 * 2 ^ (7 * j) = z at *
  generalize x.toNat % 128 = y at *
  generalize 7 * j = m at *
  simp only [body161_eq, p161, E161]
  have hj0 : j = 0 ∨ 0 < j := by omega
  rcases hj0 with rfl | hj0
  · obtain ⟨tl, rfl⟩ : ∃ tl, l = x :: tl := by
      cases l with
      | nil => simp at hj
      | cons q tl => simp at hj; subst hj; exact ⟨tl, rfl⟩
    have hm : m = 0 := by
      have : IntKind.i64.wrap (7 * ((0 : Nat) : Int)) = 0 := by decide
      omega
    subst hm
    have e : ofBytes (x :: tl) = .int .u8 x.toNat :: ofBytes tl := rfl
    have h1' : (0 : Int) < (tl.length : Int) + 1 := by omega
    simp at a3
    simp [e, h5, a1, a2, h1', List.replicate]
    rw [a2.symm.trans a3, a4]
    simp
  · simp [h1, h2, h3, h4, h5, hj0, w, w3, a1, a2, a3, a4, a5, a6, List.replicate]

/-- The signed number that the last step makes. -/
def unz (u : Nat) : Int := VVE.bits .xor .i64 (IntKind.i64.wrap ((u : Int).fdiv (2 ^ min 1 IntKind.u64.bits))) (IntKind.i64.wrap (0 - IntKind.i64.wrap (VVE.bits .and .u64 (u : Int) 1)))

theorem ofBytes_drop (l : List UInt8) (k : Nat) : (ofBytes l).drop k = ofBytes (l.drop k) := by simp [ofBytes]

theorem last161 (call : VVE.Call) (n : Nat) (l : List UInt8) (u j : Nat) (hl : l.length < 2 ^ 40) (x : UInt8) (hj : l[j]? = some x) (hj9 : j ≤ 9) (hx : x.toNat < 128) (hx9 : j = 9 → x.toNat ≤ 1) (hx0 : 0 < j → x.toNat ≠ 0) (hu : u < 2 ^ (7 * j))
    (app : Bool) (bad fl : V) (rest : List Obj') :
    evC call n body161 { env := E161 .undef l u j, heap := .cells [.sl app (ofBytes l), bad, fl] :: rest } =
      some (.ret, { env := [.undef, .undef, .int .i64 (unz (x.toNat * 2 ^ (7 * j) + u))] ++ List.replicate 58 .undef, heap := .cells [.sl false (ofBytes (l.drop (j + 1))), bad, fl] :: rest }) := by
  have hlt : j < l.length := (List.getElem?_eq_some_iff.1 hj).1
  have h1 : (j : Int) < l.length := by omega
  have h2 : (ofBytes l)[j]? = some (.int .u8 x.toNat) := by simp [ofBytes, hj]
  have h5 : (x.toNat : Int) < 128 := by omega
  have w : IntKind.i64.wrap ((j : Int) + 1) = ((j + 1 : Nat) : Int) := by
    simp [IntKind.wrap, IntKind.bits, IntKind.signed]
    omega
  have w3 : IntKind.i64.wrap (7 * (j : Int)) = ((7 * j : Nat) : Int) := by
    simp [IntKind.wrap, IntKind.bits, IntKind.signed]
    omega
  have hb : x.toNat * 2 ^ (7 * j) + u < 2 ^ 64 := by
    by_cases h9 : j = 9
    · subst h9
      have := hx9 rfl
      have : x.toNat * 2 ^ (7 * 9) ≤ 1 * 2 ^ (7 * 9) := Nat.mul_le_mul_right _ this
      omega
    · have h1 : 2 ^ (7 * j) ≤ 2 ^ 56 := Nat.pow_le_pow_right (by omega) (by omega)
      have h2 : x.toNat * 2 ^ (7 * j) + u < (x.toNat + 1) * 2 ^ (7 * j) := by rw [Nat.add_mul]; omega
      have h3 : (x.toNat + 1) * 2 ^ (7 * j) ≤ 128 * 2 ^ 56 := Nat.mul_le_mul (by omega) h1
      omega
  have a1 := and127b x
  rw [Nat.mod_eq_of_lt hx] at a1
  have a2 : IntKind.u64.wrap (x.toNat : Int) = (x.toNat : Int) := wrap_u64 (by omega) (by omega)
  have a3 := shl_val x.toNat (7 * j) (by omega) (by omega)
  have a4 := or_add u x.toNat (7 * j) hu (by omega)
  have a5 : ¬ ((7 * j : Nat) : Int) < 0 := by omega
  have a6 : ((7 * j : Nat) : Int).toNat = 7 * j := by omega
  have a7 : ((j + 1 : Nat) : Int) ≤ l.length := by omega
  have a8 : (0 : Int) ≤ ((j + 1 : Nat) : Int) := by omega
  have a9 : ((j + 1 : Nat) : Int).toNat = j + 1 := by omega
  generalize x.toNat * 2 ^ (7 * j) = z at *
  generalize 7 * j = m at *
  generalize hq : j + 1 = q at w a7 a8 a9 ⊢
  have a7' : q ≤ l.length := by omega
  have a10 : (ofBytes l).take l.length = ofBytes l := by rw [← length_ofBytes l]; exact List.take_length
  simp only [body161_eq, p161, E161]
  have hj0 : j = 0 ∨ (0 < j ∧ j < 9) ∨ j = 9 := by omega
  rcases hj0 with rfl | ⟨hj0, hj1⟩ | rfl
  · obtain ⟨tl, rfl⟩ : ∃ tl, l = x :: tl := by
      cases l with
      | nil => simp at hj
      | cons q tl => simp at hj; subst hj; exact ⟨tl, rfl⟩
    have hm : m = 0 := by
      have : IntKind.i64.wrap (7 * ((0 : Nat) : Int)) = 0 := by decide
      omega
    subst hm
    subst hq
    have e : ofBytes (x :: tl) = .int .u8 x.toNat :: ofBytes tl := rfl
    have h1' : (0 : Int) < (tl.length : Int) + 1 := by omega
    have h1'' : (1 : Int) ≤ (tl.length : Int) + 1 := by omega
    have e2 : (ofBytes tl).take tl.length = ofBytes tl := by rw [← length_ofBytes tl]; exact List.take_length
    simp at a3
    have e3 : VVE.bits .or .u64 (u : Int) (x.toNat : Int) = (z + u : Nat) := by rw [a2.symm.trans a3, a4]
    simp [e, h5, a1, a2, h1', h1'', e2, e3, unz, List.replicate]
  · have h3 : ((j : Int) == 9) = false := by simp; omega
    have h4 : ((x.toNat : Int) == 0) = false := by simp; exact fun h => hx0 hj0 (by omega)
    simp [h1, h2, h3, h4, h5, hj0, w, w3, a1, a2, a3, a4, a5, a6, a7', a9, a10, ofBytes_drop, unz, List.replicate]
  · have hm : m = 63 := by
      have : IntKind.i64.wrap (7 * ((9 : Nat) : Int)) = 63 := by decide
      omega
    subst hm
    subst hq
    have h4 : ((x.toNat : Int) == 0) = false := by simp; exact fun h => hx0 (by omega) (by omega)
    have h6 : ¬ (1 : Int) < x.toNat := by have := hx9 rfl; omega
    have w63 : IntKind.i64.wrap 63 = 63 := by decide
    have h1' : (9 : Int) < l.length := by omega
    have h1'' : (10 : Int) ≤ l.length := by omega
    have h1n : 10 ≤ l.length := by omega
    simp at a3 a4
    simp [h1', h1'', h1n, h2, h4, h5, h6, w63, a1, a2, a3, a4, a10, ofBytes_drop, unz, List.replicate]

end Go.Proofs.YtflciaomdlgjpaaGreatDoor.VVE.Obj

namespace Go.Proofs.YtflciaomdlgjpaaGreatDoor.VVE.Obj
open Go Go.Proofs.YtflciaomdlgjpaaGreatDoor.VVE

theorem loop161 (call : VVE.Call) (n : Nat) (l r : List UInt8) (hl : l.length < 2 ^ 40) (app : Bool) (bad fl : V) (rest : List Obj') : ∀ (m v : Nat), v < 128 ^ (m + 1) → ∀ (j u : Nat), l.drop j = varint v ++ r → (0 < j → 0 < v) → u < 2 ^ (7 * j) →
    v * 2 ^ (7 * j) + u < 2 ^ 64 → ∀ k, m < k → iter (evC call n body161) k { env := E161 .undef l u j, heap := .cells [.sl app (ofBytes l), bad, fl] :: rest } =
      some (.ret, { env := [.undef, .undef, .int .i64 (unz (v * 2 ^ (7 * j) + u))] ++ List.replicate 58 .undef, heap := .cells [.sl false (ofBytes r), bad, fl] :: rest })
  | m, v, hv, j, u, hd, h0, hu, hb, 0, hk => by omega
  | m, v, hv, j, u, hd, h0, hu, hb, k + 1, hk => by
    have hjb : j ≤ 9 ∨ v = 0 := by
      by_cases hj : j ≤ 9
      · exact .inl hj
      · right
        have : 2 ^ 70 ≤ 2 ^ (7 * j) := Nat.pow_le_pow_right (by omega) (by omega)
        rcases Nat.eq_zero_or_pos v with h | h
        · exact h
        · have := Nat.mul_le_mul h this
          omega
    have hj9 : j ≤ 9 := by
      rcases hjb with h | h
      · exact h
      · subst h
        rcases Nat.eq_zero_or_pos j with h | h
        · omega
        · have := h0 h; omega
    by_cases hlt : v < 128
    · have hvar : varint v = [UInt8.ofNat v] := by unfold varint; simp [hlt]
      rw [hvar] at hd
      have hx : l[j]? = some (UInt8.ofNat v) := by
        have := congrArg (·[0]?) hd
        simpa using this
      have hr : l.drop (j + 1) = r := by
        rw [List.drop_add_one_eq_tail_drop, hd]; rfl
      have hn : (UInt8.ofNat v).toNat = v := by simp; omega
      have := last161 call n l u j hl (UInt8.ofNat v) hx hj9 (by omega) (fun h => by rw [hn]; subst h; omega) (fun h => by rw [hn]; have := h0 h; omega) hu app bad fl rest
      rw [hn, hr] at this
      rw [iter_succ, this, loopC_ret]
    · cases m with
      | zero => exact absurd (by simpa using hv) hlt
      | succ m =>
        have hvar : varint v = UInt8.ofNat (v % 128 + 128) :: varint (v / 128) := by rw [varint, if_neg hlt]
        rw [hvar] at hd
        have hx : l[j]? = some (UInt8.ofNat (v % 128 + 128)) := by
          have := congrArg (·[0]?) hd
          simpa using this
        have hr : l.drop (j + 1) = varint (v / 128) ++ r := by
          rw [List.drop_add_one_eq_tail_drop, hd]; rfl
        have hn : (UInt8.ofNat (v % 128 + 128)).toNat = v % 128 + 128 := by
          rw [UInt8.toNat_ofNat_of_lt']
          show v % 128 + 128 < 256
          omega
        have hj8 : j < 9 := by
          rcases Nat.lt_or_ge j 9 with h | h
          · exact h
          · exfalso
            have : j = 9 := by omega
            subst this
            omega
        have hp : 2 ^ (7 * (j + 1)) = 128 * 2 ^ (7 * j) := by rw [Nat.mul_add, Nat.pow_add, Nat.mul_comm]
        have hdm : v / 128 * 128 + v % 128 = v := by omega
        have hm : (v % 128 + 128) % 128 = v % 128 := by omega
        have key : v / 128 * 2 ^ (7 * (j + 1)) + (v % 128 * 2 ^ (7 * j) + u) = v * 2 ^ (7 * j) + u := by
          rw [hp, ← Nat.mul_assoc, ← Nat.add_assoc, ← Nat.add_mul, hdm]
        have step := round161 call n l u j hl (UInt8.ofNat (v % 128 + 128)) hx hj8 (by omega) hu (.cells [.sl app (ofBytes l), bad, fl] :: rest)
        rw [hn, hm] at step
        rw [iter_succ, step, loopC_normal]
        have := loop161 call n l r hl app bad fl rest m (v / 128) (by
          rw [Nat.div_lt_iff_lt_mul (by omega)]
          rw [Nat.pow_succ] at hv
          exact hv) (j + 1) (v % 128 * 2 ^ (7 * j) + u) hr (fun _ => by omega) (by
            rw [hp]
            have : v % 128 * 2 ^ (7 * j) + u < (v % 128 + 1) * 2 ^ (7 * j) := by rw [Nat.add_mul]; omega
            have h2 : (v % 128 + 1) * 2 ^ (7 * j) ≤ 128 * 2 ^ (7 * j) := Nat.mul_le_mul_right _ (by omega)
            omega) (by rw [key]; exact hb) k (by omega)
        rw [key] at this
        exact this

end Go.Proofs.YtflciaomdlgjpaaGreatDoor.VVE.Obj

namespace Go.Proofs.YtflciaomdlgjpaaGreatDoor.VVE.Obj
open Go Go.Proofs.YtflciaomdlgjpaaGreatDoor.VVE

theorem and1 (u : Nat) (h : u < 2 ^ 64) : VVE.bits .and .u64 (u : Int) 1 = (u % 2 : Nat) := by
  have : (BitVec.ofInt 64 (u : Int) &&& BitVec.ofInt 64 1).toNat = u % 2 := by
    have e1 : BitVec.ofInt 64 (u : Int) = BitVec.ofNat 64 u := by simp
    have e2 : BitVec.ofInt 64 1 = BitVec.ofNat 64 1 := by decide
    rw [e1, e2, BitVec.toNat_and, BitVec.toNat_ofNat, BitVec.toNat_ofNat, Nat.mod_eq_of_lt h]
    exact Nat.and_two_pow_sub_one_eq_mod u 1
  unfold VVE.bits
  show IntKind.u64.wrap ((BitVec.ofInt 64 (u : Int) &&& BitVec.ofInt 64 1).toNat : Int) = _
  rw [this, wrap_u64 (by omega) (by omega)]

theorem xori (a : Nat) (h : a < 2 ^ 63) : VVE.bits .xor .i64 (a : Int) 0 = a ∧ VVE.bits .xor .i64 (a : Int) (-1) = -(a : Int) - 1 := by
  have e1 : BitVec.ofInt 64 (a : Int) = BitVec.ofNat 64 a := by simp
  constructor
  · have : (BitVec.ofInt 64 (a : Int) ^^^ BitVec.ofInt 64 0).toNat = a := by
      rw [e1]
      simp
      omega
    unfold VVE.bits
    show IntKind.i64.wrap ((BitVec.ofInt 64 (a : Int) ^^^ BitVec.ofInt 64 0).toNat : Int) = _
    rw [this]
    simp [IntKind.wrap, IntKind.bits, IntKind.signed]
    omega
  · have e2 : BitVec.ofInt 64 (-1) = BitVec.allOnes 64 := by decide
    have : (BitVec.ofInt 64 (a : Int) ^^^ BitVec.ofInt 64 (-1)).toNat = 2 ^ 64 - 1 - a := by
      rw [e1, e2, BitVec.xor_allOnes, BitVec.toNat_not, BitVec.toNat_ofNat, Nat.mod_eq_of_lt (by omega)]
    unfold VVE.bits
    show IntKind.i64.wrap ((BitVec.ofInt 64 (a : Int) ^^^ BitVec.ofInt 64 (-1)).toNat : Int) = _
    rw [this]
    simp [IntKind.wrap, IntKind.bits, IntKind.signed]
    omega

theorem unz_zig {x : Int} (h0 : -(2 ^ 63) ≤ x) (h1 : x < 2 ^ 63) : unz (zig x) = x := by
  have hz := zig_lt h0 h1
  unfold unz
  have e : (2 : Int) ^ min 1 IntKind.u64.bits = 2 := by decide
  rw [e, Int.fdiv_eq_ediv_of_nonneg _ (by decide), and1 _ hz]
  have d : ((zig x : Nat) : Int) / 2 = ((zig x / 2 : Nat) : Int) := by omega
  have w : IntKind.i64.wrap ((zig x / 2 : Nat) : Int) = ((zig x / 2 : Nat) : Int) := by
    simp [IntKind.wrap, IntKind.bits, IntKind.signed]
    omega
  rw [d, w]
  obtain ⟨x1, x2⟩ := xori (zig x / 2) (by omega)
  by_cases hx : 0 ≤ x
  · have m : zig x % 2 = 0 := by unfold zig; rw [if_pos hx]; omega
    have q : ((zig x / 2 : Nat) : Int) = x := by unfold zig; rw [if_pos hx]; omega
    have z : IntKind.i64.wrap (0 - IntKind.i64.wrap ((0 : Nat) : Int)) = 0 := by decide
    rw [m, z, x1, q]
  · have m : zig x % 2 = 1 := by unfold zig; rw [if_neg hx]; omega
    have q : -((zig x / 2 : Nat) : Int) - 1 = x := by unfold zig; rw [if_neg hx]; omega
    have z : IntKind.i64.wrap (0 - IntKind.i64.wrap ((1 : Nat) : Int)) = -1 := by decide
    rw [m, z, x2, q]

theorem rnumber_run (call : VVE.Call) (n : Nat) (hn : 11 ≤ n) (x : Int) (h0 : -(2 ^ 63) ≤ x) (h1 : x < 2 ^ 63) (r : List UInt8) (hr : r.length < 2 ^ 30) (app : Bool) (bad fl : V) (rest : List Obj') :
    evF call n p161 [.ref 0 0] (.cells [.sl app (ofBytes (num x ++ r)), bad, fl] :: rest) = some (.int .i64 x, .cells [.sl false (ofBytes r), bad, fl] :: rest) := by
  have hz := zig_lt h0 h1
  have l1 := num_length h0 h1
  have key := loop161 call n (num x ++ r) r (by simp; omega) app bad fl rest 9 (zig x) (Nat.lt_of_lt_of_le hz (by decide)) 0 0 rfl (by omega) (by simp) (by simpa using hz) n (by omega)
  have hu : unz (zig x * 2 ^ (7 * 0) + 0) = x := by simpa using unz_zig h0 h1
  rw [hu] at key
  simp only [body161_eq, p161, E161] at key
  unfold evF
  simp only [p161]
  simp [List.replicate] at key
  simp [evC_loop, key]

end Go.Proofs.YtflciaomdlgjpaaGreatDoor.VVE.Obj

namespace Go.Proofs.YtflciaomdlgjpaaGreatDoor.VVE.Obj
open Go Go.Proofs.YtflciaomdlgjpaaGreatDoor.VVE

def RNumberOk (call : VVE.Call) : Prop := ∀ (x : Int), -(2 ^ 63) ≤ x → x < 2 ^ 63 → ∀ (r : List UInt8), r.length < 2 ^ 30 → ∀ (app : Bool) (bad fl : V) (rest : List Obj'),
  call 161 [.ref 0 0] (.cells [.sl app (ofBytes (num x ++ r)), bad, fl] :: rest) = some (.int .i64 x, .cells [.sl false (ofBytes r), bad, fl] :: rest)

theorem rint_run (call : VVE.Call) (H : RNumberOk call) (n : Nat) (x : Int) (h0 : -(2 ^ 63) ≤ x) (h1 : x < 2 ^ 63) (r : List UInt8) (hr : r.length < 2 ^ 30) (app : Bool) (bad fl : V) (rest : List Obj') :
    evF call n p59 [.ref 0 0] (.cells [.sl app (ofBytes (num x ++ r)), bad, fl] :: rest) = some (.int .i64 x, .cells [.sl false (ofBytes r), bad, fl] :: rest) := by
  have h := H x h0 h1 r hr app bad fl rest
  unfold evF
  simp only [p59]
  simp [h]

theorem within_run (call : VVE.Call) (H : RNumberOk call) (n : Nat) (x lo hi : Int) (h0 : -(2 ^ 63) ≤ x) (h1 : x < 2 ^ 63) (hlo : lo ≤ x) (hhi : x ≤ hi) (r : List UInt8) (hr : r.length < 2 ^ 30) (app : Bool) (bad fl : V) (rest : List Obj') :
    evF call n p151 [.ref 0 0, .int .i64 lo, .int .i64 hi] (.cells [.sl app (ofBytes (num x ++ r)), bad, fl] :: rest) = some (.int .i64 x, .cells [.sl false (ofBytes r), bad, fl] :: rest) := by
  have h := H x h0 h1 r hr app bad fl rest
  have e1 : ¬ x < lo := by omega
  have e2 : ¬ hi < x := by omega
  unfold evF
  simp only [p151]
  simp [h, e1, e2]

def WithinOk (call : VVE.Call) : Prop := ∀ (x lo hi : Int), -(2 ^ 63) ≤ x → x < 2 ^ 63 → lo ≤ x → x ≤ hi → ∀ (r : List UInt8), r.length < 2 ^ 30 → ∀ (app : Bool) (bad fl : V) (rest : List Obj'),
  call 151 [.ref 0 0, .int .i64 lo, .int .i64 hi] (.cells [.sl app (ofBytes (num x ++ r)), bad, fl] :: rest) = some (.int .i64 x, .cells [.sl false (ofBytes r), bad, fl] :: rest)

theorem toByte_list : ∀ (l : List UInt8), (ofBytes l).mapM toByte = some l := by
  intro l
  induction l with
  | nil => rfl
  | cons x l ih =>
    have hx := x.toNat_lt
    have e : toByte (.int .u8 x.toNat) = some x := by
      simp only [toByte]
      rw [if_pos (by omega)]
      simp
    show (V.int .u8 x.toNat :: ofBytes l).mapM toByte = _
    simp only [List.mapM_cons, e, ih]
    rfl

theorem rtext_run (call : VVE.Call) (H : WithinOk call) (n : Nat) (t : List UInt8) (ht : t.length < 2 ^ 29) (r : List UInt8) (hr : r.length < 2 ^ 29) (app : Bool) (bad fl : V) (rest : List Obj') :
    evF call n p58 [.ref 0 0] (.cells [.sl app (ofBytes (txt t ++ r)), bad, fl] :: rest) = some (.str t, .cells [.sl false (ofBytes r), bad, fl] :: rest) := by
  have h := H t.length 0 (txt t ++ r).length (by omega) (by omega) (by omega) (by simp [txt]; omega) (t ++ r) (by simp; omega) app bad fl rest
  rw [show num t.length ++ (t ++ r) = txt t ++ r by simp [txt, num]] at h
  have e1 : ¬ ((t.length : Int) + r.length) < t.length := by omega
  have e2 : (t.length : Int) ≤ (t.length : Int) + r.length := by omega
  have e3 : (ofBytes (t ++ r)).take t.length = ofBytes t := by rw [ofBytes_append, ← length_ofBytes t]; simp
  have e4 : ((ofBytes (t ++ r)).take (t.length + r.length)).drop t.length = ofBytes r := by
    rw [show t.length + r.length = (ofBytes (t ++ r)).length by simp, List.take_length, ofBytes_append, ← length_ofBytes t]; simp
  unfold evF
  simp only [p58]
  simp at h
  simp [h, e1, e2, e3, e4, toByte_list]

end Go.Proofs.YtflciaomdlgjpaaGreatDoor.VVE.Obj

namespace Go.Proofs.YtflciaomdlgjpaaGreatDoor.VVE.Obj
open Go Go.Proofs.YtflciaomdlgjpaaGreatDoor.VVE

theorem rtruth_run (call : VVE.Call) (H : WithinOk call) (n : Nat) (r : List UInt8) (hr : r.length < 2 ^ 29) (app : Bool) (bad fl : V) (rest : List Obj') :
    evF call n p127 [.ref 0 0] (.cells [.sl app (ofBytes ([0] ++ r)), bad, fl] :: rest) = some (.bool false, .cells [.sl false (ofBytes r), bad, fl] :: rest) := by
  have h := H 0 0 1 (by omega) (by omega) (by omega) (by omega) r (by omega) app bad fl rest
  rw [num0] at h
  unfold evF
  simp only [p127]
  simp at h
  simp [h]

/-- An empty list is read. -/
def RNilOk (call : VVE.Call) (f : Nat) : Prop := ∀ (k : Nat) (a b : List V) (r : List UInt8), r.length < 2 ^ 28 → ∀ (app : Bool) (bad fl : V) (rest : List Obj'),
  call f [.ref 0 0, .clo k a b] (.cells [.sl app (ofBytes ([0] ++ r)), bad, fl] :: rest) = some (.sl false [], .cells [.sl false (ofBytes r), bad, fl] :: rest)

theorem rnil200 (call : VVE.Call) (H : WithinOk call) (n : Nat) (k : Nat) (a b : List V) (r : List UInt8) (hr : r.length < 2 ^ 28) (app : Bool) (bad fl : V) (rest : List Obj') :
    evF call (n + 3) p200 [.ref 0 0, .clo k a b] (.cells [.sl app (ofBytes ([0] ++ r)), bad, fl] :: rest) = some (.sl false [], .cells [.sl false (ofBytes r), bad, fl] :: rest) := by
  have h := H 0 0 (1 + r.length) (by omega) (by omega) (by omega) (by omega) r (by omega) app bad fl rest
  rw [num0, show (1 : Int) + r.length = (r.length : Int) + 1 by omega] at h
  unfold evF
  simp only [p200]
  simp at h
  simp [h, evC_loop, iter_succ]

theorem rnil129 (call : VVE.Call) (H : WithinOk call) (n : Nat) (k : Nat) (a b : List V) (r : List UInt8) (hr : r.length < 2 ^ 28) (app : Bool) (bad fl : V) (rest : List Obj') :
    evF call (n + 3) p129 [.ref 0 0, .clo k a b] (.cells [.sl app (ofBytes ([0] ++ r)), bad, fl] :: rest) = some (.sl false [], .cells [.sl false (ofBytes r), bad, fl] :: rest) := by
  have h := H 0 0 (1 + r.length) (by omega) (by omega) (by omega) (by omega) r (by omega) app bad fl rest
  rw [num0, show (1 : Int) + r.length = (r.length : Int) + 1 by omega] at h
  unfold evF
  simp only [p129]
  simp at h
  simp [h, evC_loop, iter_succ]

theorem rnil131 (call : VVE.Call) (H : WithinOk call) (n : Nat) (k : Nat) (a b : List V) (r : List UInt8) (hr : r.length < 2 ^ 28) (app : Bool) (bad fl : V) (rest : List Obj') :
    evF call (n + 3) p131 [.ref 0 0, .clo k a b] (.cells [.sl app (ofBytes ([0] ++ r)), bad, fl] :: rest) = some (.sl false [], .cells [.sl false (ofBytes r), bad, fl] :: rest) := by
  have h := H 0 0 (1 + r.length) (by omega) (by omega) (by omega) (by omega) r (by omega) app bad fl rest
  rw [num0, show (1 : Int) + r.length = (r.length : Int) + 1 by omega] at h
  unfold evF
  simp only [p131]
  simp at h
  simp [h, evC_loop, iter_succ]

theorem rnil136 (call : VVE.Call) (H : WithinOk call) (n : Nat) (k : Nat) (a b : List V) (r : List UInt8) (hr : r.length < 2 ^ 28) (app : Bool) (bad fl : V) (rest : List Obj') :
    evF call (n + 3) p136 [.ref 0 0, .clo k a b] (.cells [.sl app (ofBytes ([0] ++ r)), bad, fl] :: rest) = some (.sl false [], .cells [.sl false (ofBytes r), bad, fl] :: rest) := by
  have h := H 0 0 (1 + r.length) (by omega) (by omega) (by omega) (by omega) r (by omega) app bad fl rest
  rw [num0, show (1 : Int) + r.length = (r.length : Int) + 1 by omega] at h
  unfold evF
  simp only [p136]
  simp at h
  simp [h, evC_loop, iter_succ]

theorem rnil140 (call : VVE.Call) (H : WithinOk call) (n : Nat) (k : Nat) (a b : List V) (r : List UInt8) (hr : r.length < 2 ^ 28) (app : Bool) (bad fl : V) (rest : List Obj') :
    evF call (n + 3) p140 [.ref 0 0, .clo k a b] (.cells [.sl app (ofBytes ([0] ++ r)), bad, fl] :: rest) = some (.sl false [], .cells [.sl false (ofBytes r), bad, fl] :: rest) := by
  have h := H 0 0 (1 + r.length) (by omega) (by omega) (by omega) (by omega) r (by omega) app bad fl rest
  rw [num0, show (1 : Int) + r.length = (r.length : Int) + 1 by omega] at h
  unfold evF
  simp only [p140]
  simp at h
  simp [h, evC_loop, iter_succ]

theorem rnil146 (call : VVE.Call) (H : WithinOk call) (n : Nat) (k : Nat) (a b : List V) (r : List UInt8) (hr : r.length < 2 ^ 28) (app : Bool) (bad fl : V) (rest : List Obj') :
    evF call (n + 3) p146 [.ref 0 0, .clo k a b] (.cells [.sl app (ofBytes ([0] ++ r)), bad, fl] :: rest) = some (.sl false [], .cells [.sl false (ofBytes r), bad, fl] :: rest) := by
  have h := H 0 0 (1 + r.length) (by omega) (by omega) (by omega) (by omega) r (by omega) app bad fl rest
  rw [num0, show (1 : Int) + r.length = (r.length : Int) + 1 by omega] at h
  unfold evF
  simp only [p146]
  simp at h
  simp [h, evC_loop, iter_succ]

theorem rnil50 (call : VVE.Call) (H : WithinOk call) (n : Nat) (k : Nat) (a b : List V) (r : List UInt8) (hr : r.length < 2 ^ 28) (app : Bool) (bad fl : V) (rest : List Obj') :
    evF call (n + 3) p50 [.ref 0 0, .clo k a b] (.cells [.sl app (ofBytes ([0] ++ r)), bad, fl] :: rest) = some (.sl false [], .cells [.sl false (ofBytes r), bad, fl] :: rest) := by
  have h := H 0 0 (1 + r.length) (by omega) (by omega) (by omega) (by omega) r (by omega) app bad fl rest
  rw [num0, show (1 : Int) + r.length = (r.length : Int) + 1 by omega] at h
  unfold evF
  simp only [p50]
  simp at h
  simp [h, evC_loop, iter_succ]

theorem rnil52 (call : VVE.Call) (H : WithinOk call) (n : Nat) (k : Nat) (a b : List V) (r : List UInt8) (hr : r.length < 2 ^ 28) (app : Bool) (bad fl : V) (rest : List Obj') :
    evF call (n + 3) p52 [.ref 0 0, .clo k a b] (.cells [.sl app (ofBytes ([0] ++ r)), bad, fl] :: rest) = some (.sl false [], .cells [.sl false (ofBytes r), bad, fl] :: rest) := by
  have h := H 0 0 (1 + r.length) (by omega) (by omega) (by omega) (by omega) r (by omega) app bad fl rest
  rw [num0, show (1 : Int) + r.length = (r.length : Int) + 1 by omega] at h
  unfold evF
  simp only [p52]
  simp at h
  simp [h, evC_loop, iter_succ]


end Go.Proofs.YtflciaomdlgjpaaGreatDoor.VVE.Obj

namespace Go.Proofs.YtflciaomdlgjpaaGreatDoor.VVE.Obj
open Go Go.Proofs.YtflciaomdlgjpaaGreatDoor.VVE

def body18 : IC := match p18.body with | .seq _ (.seq (.seq _ (.block _ (.loop c))) _) => c | _ => .stop
theorem body18_eq : body18 = (match p18.body with | .seq _ (.seq (.seq _ (.block _ (.loop c))) _) => c | _ => .stop) := rfl

def E18 (app : Bool) (t5 : V) (l : List UInt8) (u : Nat) (j : Nat) : List V := [.sl app (ofBytes l), .undef, .int .u64 u, .undef, .int .i64 j, t5] ++ List.replicate 13 .undef

theorem round18 (call : VVE.Call) (n : Nat) (app : Bool) (l : List UInt8) (u j : Nat) (x : UInt8) (hj : l[j]? = some x) (hj8 : j < 8) (hu : u < 2 ^ (8 * j)) (h : List Obj') :
    evC call n body18 { env := E18 app .undef l u j, heap := h } = some (.normal, { env := E18 app .undef l (x.toNat * 2 ^ (8 * j) + u) (j + 1), heap := h }) := by
  have h1 : (j : Int) < 8 := by omega
  have h2 : (ofBytes l)[j]? = some (.int .u8 x.toNat) := by simp [ofBytes, hj]
  have hx := x.toNat_lt
  have w : IntKind.i64.wrap ((j : Int) + 1) = ((j + 1 : Nat) : Int) := by
    simp [IntKind.wrap, IntKind.bits, IntKind.signed]
    omega
  have w3 : IntKind.i64.wrap (8 * (j : Int)) = ((8 * j : Nat) : Int) := by
    simp [IntKind.wrap, IntKind.bits, IntKind.signed]
    omega
  have hb : x.toNat * 2 ^ (8 * j) + u < 2 ^ 64 := by
    have h1 : 2 ^ (8 * j) ≤ 2 ^ 56 := Nat.pow_le_pow_right (by omega) (by omega)
    have h2 : x.toNat * 2 ^ (8 * j) + u < (x.toNat + 1) * 2 ^ (8 * j) := by rw [Nat.add_mul]; omega
    have h3 : (x.toNat + 1) * 2 ^ (8 * j) ≤ 256 * 2 ^ 56 := Nat.mul_le_mul (by omega) h1
    omega
  have a2 : IntKind.u64.wrap (x.toNat : Int) = (x.toNat : Int) := wrap_u64 (by omega) (by omega)
  have a3 := shl_val x.toNat (8 * j) (by omega) (by omega)
  have a4 := or_add u x.toNat (8 * j) hu (by omega)
  have a5 : ¬ ((8 * j : Nat) : Int) < 0 := by omega
  have a6 : ((8 * j : Nat) : Int).toNat = 8 * j := by omega
  generalize x.toNat * 2 ^ (8 * j) = z at *
  generalize 8 * j = m at *
  generalize hq : j + 1 = q at w ⊢
  simp only [body18_eq, p18, E18]
  simp [h1, h2, w, w3, a2, a3, a4, a5, a6, List.replicate]

theorem round18d (call : VVE.Call) (n : Nat) (app : Bool) (d : Nat) (r : List UInt8) (j : Nat) (hj : j < 8) (h : List Obj') :
    evC call n body18 { env := E18 app .undef (bytes8 d ++ r) (d % 2 ^ (8 * j)) j, heap := h } = some (.normal, { env := E18 app .undef (bytes8 d ++ r) (d % 2 ^ (8 * (j + 1))) (j + 1), heap := h }) := by
  have hx : (bytes8 d ++ r)[j]? = some (byteAt d j) := by
    rcases j with _ | _ | _ | _ | _ | _ | _ | _ | j <;> first | rfl | omega
  have hv : (byteAt d j).toNat = d / 2 ^ (8 * j) % 256 := by simp [byteAt]
  have e : (byteAt d j).toNat * 2 ^ (8 * j) + d % 2 ^ (8 * j) = d % 2 ^ (8 * (j + 1)) := by
    rw [hv, show 8 * (j + 1) = 8 * j + 8 by omega, Nat.pow_add, Nat.mod_mul]
    have : (2 : Nat) ^ 8 = 256 := rfl
    rw [this, Nat.mul_comm (2 ^ (8 * j)), Nat.add_comm]
  have := round18 call n app (bytes8 d ++ r) (d % 2 ^ (8 * j)) j (byteAt d j) hx hj (Nat.mod_lt _ (Nat.two_pow_pos _)) h
  rw [e] at this
  exact this

theorem exit18 (call : VVE.Call) (n : Nat) (app : Bool) (l : List UInt8) (u : Nat) (h : List Obj') :
    evC call n body18 { env := E18 app .undef l u 8, heap := h } = some (.exit 0, { env := E18 app (.bool false) l u 8, heap := h }) := by
  simp only [body18_eq, p18, E18]
  simp

theorem rlong_run (call : VVE.Call) (n d : Nat) (hd : d < 2 ^ 64) (r : List UInt8) (app : Bool) (h : List Obj') :
    evF call (n + 10) p18 [.sl app (ofBytes (bytes8 d ++ r))] h = some (.int .u64 d, h) := by
  have key : iter (evC call (n + 10) body18) (n + 10) { env := E18 app .undef (bytes8 d ++ r) (d % 2 ^ (8 * 0)) 0, heap := h } = some (.exit 0, { env := E18 app (.bool false) (bytes8 d ++ r) (d % 2 ^ (8 * 8)) 8, heap := h }) := by
    rw [iter_succ, round18d _ _ _ _ _ 0 (by omega), loopC_normal]
    rw [iter_succ, round18d _ _ _ _ _ 1 (by omega), loopC_normal]
    rw [iter_succ, round18d _ _ _ _ _ 2 (by omega), loopC_normal]
    rw [iter_succ, round18d _ _ _ _ _ 3 (by omega), loopC_normal]
    rw [iter_succ, round18d _ _ _ _ _ 4 (by omega), loopC_normal]
    rw [iter_succ, round18d _ _ _ _ _ 5 (by omega), loopC_normal]
    rw [iter_succ, round18d _ _ _ _ _ 6 (by omega), loopC_normal]
    rw [iter_succ, round18d _ _ _ _ _ 7 (by omega), loopC_normal]
    rw [iter_succ, exit18, loopC_exit]
  rw [show d % 2 ^ (8 * 8) = d from Nat.mod_eq_of_lt hd, show d % 2 ^ (8 * 0) = 0 by simp [Nat.mod_one]] at key
  generalize bytes8 d ++ r = l at *
  simp only [body18_eq, p18, E18] at key
  unfold evF
  simp only [p18]
  simp [List.replicate] at key
  simp [evC_loop, key]

end Go.Proofs.YtflciaomdlgjpaaGreatDoor.VVE.Obj

namespace Go.Proofs.YtflciaomdlgjpaaGreatDoor.VVE.Obj
open Go Go.Proofs.YtflciaomdlgjpaaGreatDoor.VVE

def RLongOk (call : VVE.Call) : Prop := ∀ (d : Nat), d < 2 ^ 64 → ∀ (r : List UInt8) (app : Bool) (h : List Obj'), call 18 [.sl app (ofBytes (bytes8 d ++ r))] h = some (.int .u64 d, h)

theorem digest_run (call : VVE.Call) (H : RLongOk call) (n d : Nat) (hd : d < 2 ^ 64) (r : List UInt8) (hr : r.length < 2 ^ 28) (app : Bool) (bad fl : V) (rest : List Obj') :
    evF call n p60 [.ref 0 0] (.cells [.sl app (ofBytes (bytes8 d ++ r)), bad, fl] :: rest) = some (.int .u64 d, .cells [.sl false (ofBytes r), bad, fl] :: rest) := by
  have h := fun app => H d hd r app (.cells [.sl app (ofBytes (bytes8 d ++ r)), bad, fl] :: rest)
  have h := H d hd r false (.cells [.sl app (ofBytes (bytes8 d ++ r)), bad, fl] :: rest)
  have hl : (bytes8 d ++ r).length = r.length + 8 := by simp [bytes8]
  have e0 : (ofBytes (bytes8 d ++ r)).drop 8 = ofBytes r := by rw [ofBytes_drop]; simp [bytes8]
  have e5 : (ofBytes (bytes8 d ++ r)).take (r.length + 8) = ofBytes (bytes8 d ++ r) := by rw [← hl, ← length_ofBytes (bytes8 d ++ r)]; exact List.take_length
  generalize bytes8 d ++ r = l at *
  have e1 : ¬ (l.length : Int) < 8 := by omega
  have e2 : (8 : Int) ≤ l.length := by omega
  rw [← hl] at e5
  unfold evF
  simp only [p60]
  simp [h, e1, e2, e5, e0]

end Go.Proofs.YtflciaomdlgjpaaGreatDoor.VVE.Obj

namespace Go.Proofs.YtflciaomdlgjpaaGreatDoor.VVE.Obj
open Go Go.Proofs.YtflciaomdlgjpaaGreatDoor.VVE

def RIntOk (call : VVE.Call) : Prop := ∀ (x : Int), -(2 ^ 63) ≤ x → x < 2 ^ 63 → ∀ (r : List UInt8), r.length < 2 ^ 28 → ∀ (app : Bool) (bad fl : V) (rest : List Obj'),
  call 59 [.ref 0 0] (.cells [.sl app (ofBytes (num x ++ r)), bad, fl] :: rest) = some (.int .i64 x, .cells [.sl false (ofBytes r), bad, fl] :: rest)

def RTextOk (call : VVE.Call) : Prop := ∀ (t : List UInt8), t.length < 2 ^ 20 → ∀ (r : List UInt8), r.length < 2 ^ 28 → ∀ (app : Bool) (bad fl : V) (rest : List Obj'),
  call 58 [.ref 0 0] (.cells [.sl app (ofBytes (txt t ++ r)), bad, fl] :: rest) = some (.str t, .cells [.sl false (ofBytes r), bad, fl] :: rest)

theorem rimport_run (call : VVE.Call) (H1 : RTextOk call) (H2 : RIntOk call) (n : Nat) (t : List UInt8) (ht : t.length < 2 ^ 20) (x : Int) (h0 : -(2 ^ 63) ≤ x) (h1 : x < 2 ^ 63) (r : List UInt8) (hr : r.length < 2 ^ 27) (app : Bool) (bad fl : V) (X : Obj') (rest : List Obj') :
    evF call n p124 [.ref 2 0] (.cells [.sl app (ofBytes (txt t ++ (num x ++ r))), bad, fl] :: X :: box0 :: rest) =
      some (.agg [.str t, .int .i64 x], .cells [.sl false (ofBytes r), bad, fl] :: X :: box0 :: rest) := by
  have l2 := num_length h0 h1
  have k1 := H1 t ht (num x ++ r) (by simp; omega) app bad fl (X :: .gone :: rest)
  have k2 := H2 x h0 h1 r (by omega) false bad fl (X :: .gone :: rest)
  unfold evF
  simp only [p124, box0]
  simp [k1, k2, isGone]

def RDigestOk (call : VVE.Call) : Prop := ∀ (d : Nat), d < 2 ^ 64 → ∀ (r : List UInt8), r.length < 2 ^ 28 → ∀ (app : Bool) (bad fl : V) (rest : List Obj'),
  call 60 [.ref 0 0] (.cells [.sl app (ofBytes (bytes8 d ++ r)), bad, fl] :: rest) = some (.int .u64 d, .cells [.sl false (ofBytes r), bad, fl] :: rest)

theorem ragainst_run (call : VVE.Call) (H1 : RTextOk call) (H2 : RIntOk call) (H3 : RDigestOk call) (n : Nat) (t : List UInt8) (ht : t.length < 2 ^ 20) (x : Int) (h0 : -(2 ^ 63) ≤ x) (h1 : x < 2 ^ 63) (d : Nat) (hd : d < 2 ^ 64) (r : List UInt8) (hr : r.length < 2 ^ 27)
    (app : Bool) (bad fl : V) (rest : List Obj') :
    evF call n p57 [.ref 1 0] (.cells [.sl app (ofBytes (txt t ++ (num x ++ (bytes8 d ++ r)))), bad, fl] :: box0 :: rest) =
      some (.agg [.str t, .int .i64 x, .int .u64 d], .cells [.sl false (ofBytes r), bad, fl] :: box0 :: rest) := by
  have l2 := num_length h0 h1
  have k1 := H1 t ht (num x ++ (bytes8 d ++ r)) (by simp [bytes8]; omega) app bad fl (.gone :: rest)
  have k2 := H2 x h0 h1 (bytes8 d ++ r) (by simp [bytes8]; omega) false bad fl (.gone :: rest)
  have k3 := H3 d hd r (by omega) false bad fl (.gone :: rest)
  unfold evF
  simp only [p57, box0]
  simp [k1, k2, k3, isGone]

def RTruthOk (call : VVE.Call) : Prop := ∀ (r : List UInt8), r.length < 2 ^ 28 → ∀ (app : Bool) (bad fl : V) (rest : List Obj'),
  call 127 [.ref 0 0] (.cells [.sl app (ofBytes ([0] ++ r)), bad, fl] :: rest) = some (.bool false, .cells [.sl false (ofBytes r), bad, fl] :: rest)

def RTextsOk (call : VVE.Call) : Prop := ∀ (r : List UInt8), r.length < 2 ^ 27 → ∀ (app : Bool) (bad fl : V) (rest : List Obj'),
  call 128 [.ref 0 0] (.cells [.sl app (ofBytes ([0] ++ r)), bad, fl] :: rest) = some (.sl false [], .cells [.sl false (ofBytes r), bad, fl] :: rest)

theorem rtexts_run (call : VVE.Call) (H : RNilOk call 200) (n : Nat) (r : List UInt8) (hr : r.length < 2 ^ 28) (app : Bool) (bad fl : V) (rest : List Obj') :
    evF call n p128 [.ref 0 0] (.cells [.sl app (ofBytes ([0] ++ r)), bad, fl] :: rest) = some (.sl false [], .cells [.sl false (ofBytes r), bad, fl] :: rest) := by
  have h := H 58 [.ref 0 0] [] r hr app bad fl rest
  unfold evF
  simp only [p128]
  simp at h
  simp [h]

theorem rstruct_run (call : VVE.Call) (H1 : RTextOk call) (H2 : RIntOk call) (H3 : RTruthOk call) (H4 : RTextsOk call) (H5 : RNilOk call 129) (n : Nat) (t : List UInt8) (ht : t.length < 2 ^ 20) (x : Int) (h0 : -(2 ^ 63) ≤ x) (h1 : x < 2 ^ 63) (r : List UInt8) (hr : r.length < 2 ^ 26)
    (app : Bool) (bad fl : V) (X : Obj') (rest : List Obj') :
    evF call n p126 [.ref 2 0] (.cells [.sl app (ofBytes (num x ++ ([0] ++ ([0] ++ (txt t ++ ([0] ++ ([0] ++ r))))))), bad, fl] :: X :: box0 :: rest) =
      some (.agg [.int .i64 x, .bool false, .bool false, .str t, .sl false [], .sl false []], .cells [.sl false (ofBytes r), bad, fl] :: X :: box0 :: rest) := by
  have l1 := txt_length (t := t) (by omega)
  have k1 := H2 x h0 h1 ([0] ++ ([0] ++ (txt t ++ ([0] ++ ([0] ++ r))))) (by simp; omega) app bad fl (X :: .gone :: rest)
  have k2 := H3 ([0] ++ (txt t ++ ([0] ++ ([0] ++ r)))) (by simp; omega) false bad fl (X :: .gone :: rest)
  have k3 := H3 (txt t ++ ([0] ++ ([0] ++ r))) (by simp; omega) false bad fl (X :: .gone :: rest)
  have k4 := H1 t ht ([0] ++ ([0] ++ r)) (by simp; omega) false bad fl (X :: .gone :: rest)
  have k5 := H4 ([0] ++ r) (by simp; omega) false bad fl (X :: .gone :: rest)
  have k6 := H5 130 [] [.ref 2 0] r (by omega) false bad fl (X :: .cells [.ref 0 0] :: rest)
  unfold evF
  simp only [p126, box0]
  simp at k1 k2 k3 k4 k5 k6
  simp [k1, k2, k3, k4, k5, k6, isGone]

end Go.Proofs.YtflciaomdlgjpaaGreatDoor.VVE.Obj

namespace Go.Proofs.YtflciaomdlgjpaaGreatDoor.VVE.Obj
open Go Go.Proofs.YtflciaomdlgjpaaGreatDoor.VVE

theorem rimports_run (call : VVE.Call) (H : WithinOk call) (n : Nat) (t : List UInt8) (x : Int) (bs r : List UInt8) (hb : bs.length < 2 ^ 28) (app : Bool) (fl : V) (X : Obj') (rest : List Obj')
    (H1 : call 124 [.ref 2 0] (.cells [.sl false (ofBytes bs), .bool false, fl] :: X :: box0 :: rest) = some (.agg [.str t, .int .i64 x], .cells [.sl false (ofBytes r), .bool false, fl] :: X :: box0 :: rest)) :
    evF call (n + 4) p123 [.ref 0 0, .clo 124 [] [.ref 2 0]] (.cells [.sl app (ofBytes ([2] ++ bs)), .bool false, fl] :: X :: box0 :: rest) =
      some (.sl false [.agg [.str t, .int .i64 x]], .cells [.sl false (ofBytes r), .bool false, fl] :: X :: box0 :: rest) := by
  have h := H 1 0 (1 + bs.length) (by omega) (by omega) (by omega) (by omega) bs (by omega) app (.bool false) fl (X :: box0 :: rest)
  rw [num1, show (1 : Int) + bs.length = (bs.length : Int) + 1 by omega] at h
  unfold evF
  simp only [p123]
  simp at h
  simp [h, H1, evC_loop, iter_succ]

theorem rstructs_run (call : VVE.Call) (H : WithinOk call) (n : Nat) (t : List UInt8) (x : Int) (bs r : List UInt8) (hb : bs.length < 2 ^ 28) (app : Bool) (fl : V) (X : Obj') (rest : List Obj')
    (H1 : call 126 [.ref 2 0] (.cells [.sl false (ofBytes bs), .bool false, fl] :: X :: box0 :: rest) =
      some (.agg [.int .i64 x, .bool false, .bool false, .str t, .sl false [], .sl false []], .cells [.sl false (ofBytes r), .bool false, fl] :: X :: box0 :: rest)) :
    evF call (n + 4) p125 [.ref 0 0, .clo 126 [] [.ref 2 0]] (.cells [.sl app (ofBytes ([2] ++ bs)), .bool false, fl] :: X :: box0 :: rest) =
      some (.sl false [.agg [.int .i64 x, .bool false, .bool false, .str t, .sl false [], .sl false []]], .cells [.sl false (ofBytes r), .bool false, fl] :: X :: box0 :: rest) := by
  have h := H 1 0 (1 + bs.length) (by omega) (by omega) (by omega) (by omega) bs (by omega) app (.bool false) fl (X :: box0 :: rest)
  rw [num1, show (1 : Int) + bs.length = (bs.length : Int) + 1 by omega] at h
  unfold evF
  simp only [p125]
  simp at h
  simp [h, H1, evC_loop, iter_succ]

theorem ragainsts_run (call : VVE.Call) (H : WithinOk call) (n : Nat) (t : List UInt8) (x : Int) (d : Nat) (bs r : List UInt8) (hb : bs.length < 2 ^ 28) (app : Bool) (fl : V) (rest : List Obj')
    (H1 : call 57 [.ref 1 0] (.cells [.sl false (ofBytes bs), .bool false, fl] :: box0 :: rest) =
      some (.agg [.str t, .int .i64 x, .int .u64 d], .cells [.sl false (ofBytes r), .bool false, fl] :: box0 :: rest)) :
    evF call (n + 4) p56 [.ref 0 0, .clo 57 [] [.ref 1 0]] (.cells [.sl app (ofBytes ([2] ++ bs)), .bool false, fl] :: box0 :: rest) =
      some (.sl false [.agg [.str t, .int .i64 x, .int .u64 d]], .cells [.sl false (ofBytes r), .bool false, fl] :: box0 :: rest) := by
  have h := H 1 0 (1 + bs.length) (by omega) (by omega) (by omega) (by omega) bs (by omega) app (.bool false) fl (box0 :: rest)
  rw [num1, show (1 : Int) + bs.length = (bs.length : Int) + 1 by omega] at h
  unfold evF
  simp only [p56]
  simp at h
  simp [h, H1, evC_loop, iter_succ]

end Go.Proofs.YtflciaomdlgjpaaGreatDoor.VVE.Obj

namespace Go.Proofs.YtflciaomdlgjpaaGreatDoor.VVE.Obj
open Go Go.Proofs.YtflciaomdlgjpaaGreatDoor.VVE

def RImportsOk (call : VVE.Call) : Prop := ∀ (t : List UInt8), t.length < 2 ^ 20 → ∀ (x : Int), -(2 ^ 63) ≤ x → x < 2 ^ 63 → ∀ (r : List UInt8), r.length < 2 ^ 26 → ∀ (app : Bool) (fl : V) (X : Obj') (rest : List Obj'),
  call 123 [.ref 0 0, .clo 124 [] [.ref 2 0]] (.cells [.sl app (ofBytes ([2] ++ (txt t ++ (num x ++ r)))), .bool false, fl] :: X :: box0 :: rest) =
    some (.sl false [.agg [.str t, .int .i64 x]], .cells [.sl false (ofBytes r), .bool false, fl] :: X :: box0 :: rest)

def RStructsOk (call : VVE.Call) : Prop := ∀ (t : List UInt8), t.length < 2 ^ 20 → ∀ (x : Int), -(2 ^ 63) ≤ x → x < 2 ^ 63 → ∀ (r : List UInt8), r.length < 2 ^ 25 → ∀ (app : Bool) (fl : V) (X : Obj') (rest : List Obj'),
  call 125 [.ref 0 0, .clo 126 [] [.ref 2 0]] (.cells [.sl app (ofBytes ([2] ++ (num x ++ ([0] ++ ([0] ++ (txt t ++ ([0] ++ ([0] ++ r)))))))), .bool false, fl] :: X :: box0 :: rest) =
    some (.sl false [.agg [.int .i64 x, .bool false, .bool false, .str t, .sl false [], .sl false []]], .cells [.sl false (ofBytes r), .bool false, fl] :: X :: box0 :: rest)

theorem rmodule_run (call : VVE.Call) (H1 : RTextOk call) (H2 : RIntOk call) (H3 : RImportsOk call) (H4 : RStructsOk call) (H5 : RNilOk call 131) (H6 : RNilOk call 136) (H7 : RNilOk call 140) (H8 : RNilOk call 146) (n : Nat)
    (nm t : List UInt8) (hnm : nm.length < 2 ^ 20) (ht : t.length < 2 ^ 20) (r l k : Int) (hr0 : -(2 ^ 63) ≤ r) (hr1 : r < 2 ^ 63) (hl0 : -(2 ^ 63) ≤ l) (hl1 : l < 2 ^ 63) (hk0 : -(2 ^ 63) ≤ k) (hk1 : k < 2 ^ 63) (q : List UInt8) (hq : q.length < 2 ^ 20) (app : Bool) (fl : V) (X : Obj') :
    evF call n p49 [.ref 0 0] [.cells [.sl app (ofBytes (num 1 ++ (txt nm ++ (num r ++ ([2] ++ (txt t ++ (num l ++ ([2] ++ (num k ++ ([0] ++ ([0] ++ (txt t ++ ([0] ++ ([0] ++ ([0] ++ ([0] ++ ([0] ++ ([0] ++ q)))))))))))))))))), .bool false, fl], X] =
      some (.agg (modV (fun _ => false) nm t r l k), [.cells [.sl false (ofBytes q), .bool false, fl], X]) := by
  have l1 := txt_length (t := t) (by omega)
  have l2 := txt_length (t := nm) (by omega)
  have l3 := num_length hr0 hr1
  have l4 := num_length hl0 hl1
  have l5 := num_length hk0 hk1
  have k9 := H8 147 [] [.ref 2 0] q (by omega) false (.bool false) fl [X, box0]
  have k8 := H7 141 [] [.ref 2 0] ([0] ++ q) (by simp; omega) false (.bool false) fl [X, box0]
  have k7 := H6 137 [] [.ref 2 0] ([0] ++ ([0] ++ q)) (by simp; omega) false (.bool false) fl [X, box0]
  have k6 := H5 132 [] [.ref 2 0] ([0] ++ ([0] ++ ([0] ++ q))) (by simp; omega) false (.bool false) fl [X, box0]
  have k5 := H4 t ht k hk0 hk1 ([0] ++ ([0] ++ ([0] ++ ([0] ++ q)))) (by simp; omega) false fl X []
  have k4 := H3 t ht l hl0 hl1 ([2] ++ (num k ++ ([0] ++ ([0] ++ (txt t ++ ([0] ++ ([0] ++ ([0] ++ ([0] ++ ([0] ++ ([0] ++ q))))))))))) (by simp; omega) false fl X []
  have k3 := H2 r hr0 hr1 ([2] ++ (txt t ++ (num l ++ ([2] ++ (num k ++ ([0] ++ ([0] ++ (txt t ++ ([0] ++ ([0] ++ ([0] ++ ([0] ++ ([0] ++ ([0] ++ q)))))))))))))) (by simp; omega) false (.bool false) fl [X, .gone]
  have k2 := H1 nm hnm (num r ++ ([2] ++ (txt t ++ (num l ++ ([2] ++ (num k ++ ([0] ++ ([0] ++ (txt t ++ ([0] ++ ([0] ++ ([0] ++ ([0] ++ ([0] ++ ([0] ++ q))))))))))))))) (by simp; omega) false (.bool false) fl [X, .gone]
  have k1 := H2 1 (by omega) (by omega) (txt nm ++ (num r ++ ([2] ++ (txt t ++ (num l ++ ([2] ++ (num k ++ ([0] ++ ([0] ++ (txt t ++ ([0] ++ ([0] ++ ([0] ++ ([0] ++ ([0] ++ ([0] ++ q)))))))))))))))) (by simp; omega) app (.bool false) fl [X, .gone]
  unfold evF
  simp only [p49, box0, modV] at *
  simp only [List.append_assoc, List.cons_append, List.nil_append] at k1 k2 k3 k4 k5 k6 k7 k8 k9
  simp [k1, k2, k3, k4, k5, k6, k7, k8, k9, isGone]

end Go.Proofs.YtflciaomdlgjpaaGreatDoor.VVE.Obj

namespace Go.Proofs.YtflciaomdlgjpaaGreatDoor.VVE.Obj
open Go Go.Proofs.YtflciaomdlgjpaaGreatDoor.VVE

/-- The module's bytes, in the reader's order. -/
def modR (nm t : List UInt8) (r l k : Int) (q : List UInt8) : List UInt8 :=
  num 1 ++ (txt nm ++ (num r ++ ([2] ++ (txt t ++ (num l ++ ([2] ++ (num k ++ ([0] ++ ([0] ++ (txt t ++ ([0] ++ ([0] ++ ([0] ++ ([0] ++ ([0] ++ ([0] ++ q))))))))))))))))

theorem modR_eq (nm t : List UInt8) (r l k : Int) (q : List UInt8) : modR nm t r l k q = modB nm t r l k ++ q := by simp [modR, modB]

def RModuleOk (call : VVE.Call) : Prop := ∀ (nm t : List UInt8), nm.length < 2 ^ 20 → t.length < 2 ^ 20 → ∀ (r l k : Int), -(2 ^ 63) ≤ r → r < 2 ^ 63 → -(2 ^ 63) ≤ l → l < 2 ^ 63 → -(2 ^ 63) ≤ k → k < 2 ^ 63 → ∀ (q : List UInt8), q.length < 2 ^ 20 → ∀ (app : Bool) (fl : V) (X : Obj'),
  call 49 [.ref 0 0] [.cells [.sl app (ofBytes (modR nm t r l k q)), .bool false, fl], X] = some (.agg (modV (fun _ => false) nm t r l k), [.cells [.sl false (ofBytes q), .bool false, fl], X])

def RAgainstsOk (call : VVE.Call) : Prop := ∀ (t : List UInt8), t.length < 2 ^ 20 → ∀ (x : Int), -(2 ^ 63) ≤ x → x < 2 ^ 63 → ∀ (d : Nat), d < 2 ^ 64 → ∀ (r : List UInt8), r.length < 2 ^ 26 → ∀ (app : Bool) (fl : V) (rest : List Obj'),
  call 56 [.ref 0 0, .clo 57 [] [.ref 1 0]] (.cells [.sl app (ofBytes ([2] ++ (txt t ++ (num x ++ (bytes8 d ++ r))))), .bool false, fl] :: box0 :: rest) =
    some (.sl false [.agg [.str t, .int .i64 x, .int .u64 d]], .cells [.sl false (ofBytes r), .bool false, fl] :: box0 :: rest)

theorem robject_run (call : VVE.Call) (H1 : RModuleOk call) (H2 : RNilOk call 50) (H3 : RNilOk call 52) (H4 : RAgainstsOk call) (n : Nat)
    (nm t : List UInt8) (hnm : nm.length < 2 ^ 18) (ht : t.length < 2 ^ 18) (r l k a : Int) (hr0 : -(2 ^ 63) ≤ r) (hr1 : r < 2 ^ 63) (hl0 : -(2 ^ 63) ≤ l) (hl1 : l < 2 ^ 63) (hk0 : -(2 ^ 63) ≤ k) (hk1 : k < 2 ^ 63)
    (ha0 : -(2 ^ 63) ≤ a) (ha1 : a < 2 ^ 63) (d : Nat) (hd : d < 2 ^ 64) (app : Bool) (fl : V) :
    evF call n p19 [.ref 0 0] [.cells [.sl app (ofBytes (modR nm t r l k ([0] ++ ([0] ++ ([2] ++ (txt t ++ (num a ++ (bytes8 d ++ [])))))))), .bool false, fl]] =
      some (.agg (objV (fun _ => false) nm t r l k a d), [.cells [.sl false (ofBytes []), .bool false, fl]]) := by
  have l1 := txt_length (t := t) (by omega)
  have l3 := num_length ha0 ha1
  have k1 := H1 nm t (by omega) (by omega) r l k hr0 hr1 hl0 hl1 hk0 hk1 ([0] ++ ([0] ++ ([2] ++ (txt t ++ (num a ++ (bytes8 d ++ [])))))) (by simp [bytes8]; omega) app fl .gone
  have k2 := H2 51 [.ref 0 0] [] ([0] ++ ([2] ++ (txt t ++ (num a ++ (bytes8 d ++ []))))) (by simp [bytes8]; omega) false (.bool false) fl [.gone]
  have k3 := H3 53 [] [.ref 1 0] ([2] ++ (txt t ++ (num a ++ (bytes8 d ++ [])))) (by simp [bytes8]; omega) false (.bool false) fl [box0]
  have k4 := H4 t (by omega) a ha0 ha1 d hd [] (by simp) false fl []
  generalize modR nm t r l k ([0] ++ ([0] ++ ([2] ++ (txt t ++ (num a ++ (bytes8 d ++ [])))))) = B at *
  unfold evF
  simp only [p19, box0, modV, objV] at *
  simp only [List.append_nil, List.cons_append, List.nil_append] at k1 k2 k3 k4
  simp [k1, k2, k3, k4, isGone]

end Go.Proofs.YtflciaomdlgjpaaGreatDoor.VVE.Obj

namespace Go.Proofs.YtflciaomdlgjpaaGreatDoor.VVE.Obj
open Go Go.Proofs.YtflciaomdlgjpaaGreatDoor.VVE

theorem whole_run (call : VVE.Call) (H : ObjectOk call) (n : Nat) (b : Nat → Bool) (nm t : List UInt8) (hnm : nm.length < 2 ^ 30) (ht : t.length < 2 ^ 30) (r l k a : Int) (hr0 : -(2 ^ 63) ≤ r) (hr1 : r < 2 ^ 63) (hl0 : -(2 ^ 63) ≤ l) (hl1 : l < 2 ^ 63) (hk0 : -(2 ^ 63) ≤ k) (hk1 : k < 2 ^ 63)
    (ha0 : -(2 ^ 63) ≤ a) (ha1 : a < 2 ^ 63) (d : Nat) :
    evF call n p20 [.agg (objV b nm t r l k a d)] [] = some (.sl false (ofBytes (objB nm t r l k a d)), []) := by
  have k1 := H (fun i => if i = 2 ∨ i = 3 then b i else false) nm t hnm ht r l k a hr0 hr1 hl0 hl1 hk0 hk1 ha0 ha1 d [] (by simp) (.bool true)
  unfold evF
  simp only [p20, objV] at *
  simp [show ofBytes [] = [] from rfl] at k1
  simp [k1]

def WholeOk (call : VVE.Call) : Prop := ∀ (b : Nat → Bool) (nm t : List UInt8), nm.length < 2 ^ 30 → t.length < 2 ^ 30 → ∀ (r l k a : Int), -(2 ^ 63) ≤ r → r < 2 ^ 63 → -(2 ^ 63) ≤ l → l < 2 ^ 63 → -(2 ^ 63) ≤ k → k < 2 ^ 63 →
  -(2 ^ 63) ≤ a → a < 2 ^ 63 → ∀ (d : Nat), call 20 [.agg (objV b nm t r l k a d)] [] = some (.sl false (ofBytes (objB nm t r l k a d)), [])

theorem same_run (call : VVE.Call) (H : WholeOk call) (n : Nat) (b b' : Nat → Bool) (nm t : List UInt8) (hnm : nm.length < 2 ^ 30) (ht : t.length < 2 ^ 30) (r l k a : Int) (hr0 : -(2 ^ 63) ≤ r) (hr1 : r < 2 ^ 63) (hl0 : -(2 ^ 63) ≤ l) (hl1 : l < 2 ^ 63)
    (hk0 : -(2 ^ 63) ≤ k) (hk1 : k < 2 ^ 63) (ha0 : -(2 ^ 63) ≤ a) (ha1 : a < 2 ^ 63) (d : Nat) :
    evF call n p8 [.agg (objV b nm t r l k a d), .agg (objV b' nm t r l k a d)] [] = some (.bool true, []) := by
  have k1 := fun (b : Nat → Bool) => H (fun i => if i = 2 ∨ i = 3 then b i else false) nm t hnm ht r l k a hr0 hr1 hl0 hl1 hk0 hk1 ha0 ha1 d
  have k2 := k1 b
  have k3 := k1 b'
  unfold evF
  simp only [p8, objV] at *
  simp at k2 k3
  simp [k2, k3, toByte_list]

end Go.Proofs.YtflciaomdlgjpaaGreatDoor.VVE.Obj

namespace Go.Proofs.YtflciaomdlgjpaaGreatDoor.VVE.Obj
open Go Go.Proofs.YtflciaomdlgjpaaGreatDoor.VVE

def RObjectOk (call : VVE.Call) : Prop := ∀ (nm t : List UInt8), nm.length < 2 ^ 18 → t.length < 2 ^ 18 → ∀ (r l k a : Int), -(2 ^ 63) ≤ r → r < 2 ^ 63 → -(2 ^ 63) ≤ l → l < 2 ^ 63 → -(2 ^ 63) ≤ k → k < 2 ^ 63 →
  -(2 ^ 63) ≤ a → a < 2 ^ 63 → ∀ (d : Nat), d < 2 ^ 64 → ∀ (app : Bool) (fl : V),
    call 19 [.ref 0 0] [.cells [.sl app (ofBytes (objB nm t r l k a d)), .bool false, fl]] = some (.agg (objV (fun _ => false) nm t r l k a d), [.cells [.sl false (ofBytes []), .bool false, fl]])

theorem objB_eq (nm t : List UInt8) (r l k a : Int) (d : Nat) : modR nm t r l k ([0] ++ ([0] ++ ([2] ++ (txt t ++ (num a ++ (bytes8 d ++ [])))))) = objB nm t r l k a d := by
  rw [modR_eq]
  simp [objB]

theorem sumV_lt : ∀ (l : List UInt8) (s : Int), s < 2 ^ 64 → sumV s l < 2 ^ 64
  | [], s, h => h
  | x :: xs, s, h => sumV_lt xs _ (by simp [IntKind.wrap, IntKind.bits, IntKind.signed]; omega)

theorem sumN_lt (l : List UInt8) : sumN l < 2 ^ 64 := by
  have h1 := sumN_eq l
  have h2 := sumV_lt l 14695981039346656037 (by omega)
  omega

theorem decode_run (call : VVE.Call) (H1 : RLongOk call) (H2 : SumOk call) (H3 : RObjectOk call) (H4 : ValidOk call) (n : Nat) (c : UInt8) (cs t : List UInt8) (hnm : cs.length < 1000) (ht : t.length < 1000) (r l k a : Int) (d : Nat)
    (hd : d < 2 ^ 64) (hr0 : 0 ≤ r) (hr1 : r ≤ 1000) (hl0 : -(2 ^ 63) ≤ l) (hl1 : l < 2 ^ 63) (hk0 : -(2 ^ 63) ≤ k) (hk1 : k < 2 ^ 63) (ha0 : 1 ≤ a) (ha1 : a ≤ 1000) (app : Bool) :
    evF call n p7 [.sl app (ofBytes (encB (c :: cs) t r l k a d))] [] = some (.tup [.agg (objV (fun _ => false) (c :: cs) t r l k a d), .int .i64 0], []) := by
  have lo := objB_length (nm := c :: cs) (t := t) (r := r) (l := l) (k := k) (a := a) d (by simp; omega) (by omega) (by omega) (by omega) hl0 hl1 hk0 hk1 (by omega) (by omega)
  simp only [List.length_cons] at lo
  have k3 := H3 (c :: cs) t (by simp; omega) (by omega) r l k a (by omega) (by omega) hl0 hl1 hk0 hk1 (by omega) (by omega) d hd false (.bool false)
  have k4 := fun h => H4 (fun _ => false) c cs t r l k a d h hr0 hr1 ha0 ha1
  have lX : (magic ++ objB (c :: cs) t r l k a d).length = (objB (c :: cs) t r l k a d).length + 4 := by simp [magic]
  have lY : 0 < (objB (c :: cs) t r l k a d).length := by
    simp [objB, bytes8]
    omega
  have hX : (magic ++ objB (c :: cs) t r l k a d).length < 190000 := by omega
  have k2 := H2 (magic ++ objB (c :: cs) t r l k a d) (by omega) false
  have k1 := H1 (sumN (magic ++ objB (c :: cs) t r l k a d)) (sumN_lt _) [] false
  have hs : (bytes8 (sumN (magic ++ objB (c :: cs) t r l k a d))).length = 8 := by simp [bytes8]
  have hm : (magic ++ objB (c :: cs) t r l k a d).take 4 = magic := by simp [magic]
  have hb : (magic ++ objB (c :: cs) t r l k a d).drop 4 = objB (c :: cs) t r l k a d := by simp [magic]
  unfold encB
  generalize magic ++ objB (c :: cs) t r l k a d = X at *
  generalize objB (c :: cs) t r l k a d = B at *
  generalize hS : bytes8 (sumN X) = S at *
  have e1 : ¬ (200000 : Int) < (X.length : Int) + 8 := by omega
  have e2 : ¬ (X.length : Int) + 8 < 12 := by omega
  have e3 : IntKind.i64.wrap (X.length : Int) = (X.length : Int) := by
    simp [IntKind.wrap, IntKind.bits, IntKind.signed]
    omega
  have e4 : (ofBytes (X ++ S)).take 4 = ofBytes magic := by
    rw [show (ofBytes (X ++ S)).take 4 = ofBytes ((X ++ S).take 4) by simp [ofBytes], List.take_append_of_le_length (by omega), hm]
  have e5 : ((ofBytes (X ++ S)).take (X.length + 8)).drop X.length = ofBytes S := by
    rw [show X.length + 8 = (ofBytes (X ++ S)).length by simp [hs], List.take_length, ofBytes_append, ← length_ofBytes X]
    simp
  have e6 : (ofBytes (X ++ S)).take X.length = ofBytes X := by
    rw [ofBytes_append, ← length_ofBytes X]
    simp
  have e7 : (ofBytes X).drop 4 = ofBytes B := by
    rw [ofBytes_drop, hb]
  have f4 : (X.length : Int) ≤ (X.length : Int) + 8 := by omega
  have f1 : (4 : Int) ≤ (X.length : Int) + 8 := by omega
  have f2 : 4 ≤ X.length := by omega
  have f3 : (4 : Int) ≤ (X.length : Int) := by omega
  unfold evF
  simp only [p7, objV] at *
  simp [show ofBytes [] = [] from rfl] at k1 k3 k4
  simp [f4, f1, f2, f3, hs, e1, e2, e3, e4, e5, e6, e7, k1, k2, k3, k4, toByte_list, magic]

end Go.Proofs.YtflciaomdlgjpaaGreatDoor.VVE.Obj

