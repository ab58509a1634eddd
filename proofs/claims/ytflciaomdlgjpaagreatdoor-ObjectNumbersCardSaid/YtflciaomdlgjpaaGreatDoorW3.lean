/-
  The reference's writer, and the law, in the small form's evaluator.
-/
import Derived.Test.YtflciaomdlgjpaaGreatDoorW2
import Derived.KernelRfl
set_option linter.unusedVariables false
set_option linter.unusedSimpArgs false
namespace Go.Proofs.YtflciaomdlgjpaaGreatDoor.VVE.Obj
open Go Go.Proofs.YtflciaomdlgjpaaGreatDoor.VVE

def body17 : IC := match p17.body with | .seq _ (.seq _ (.seq (.seq _ (.block _ (.loop c))) _)) => c | _ => .stop
theorem body17_eq : body17 = (match p17.body with | .seq _ (.seq _ (.seq (.seq _ (.block _ (.loop c))) _)) => c | _ => .stop) := rfl

def E17 (app : Bool) (t8 : V) (l : List UInt8) (s : Int) (j : Nat) : List V :=
  [.sl app (ofBytes l), .undef, .undef, .int .u64 s, .int .i64 j, .undef, .undef, .undef, t8, .undef, .undef, .undef, .undef, .undef, .undef, .undef, .undef, .undef, .undef, .undef]

theorem round17 (call : VVE.Call) (n : Nat) (app : Bool) (l : List UInt8) (s : Int) (j : Nat) (hl : l.length < 2 ^ 40) (x : UInt8) (hj : l[j]? = some x) (h : List Obj') :
    evC call n body17 { env := E17 app .undef l s j, heap := h } = some (.normal, { env := E17 app .undef l (IntKind.u64.wrap (VVE.bits .xor .u64 s (x.toNat : Int) * 1099511628211)) (j + 1), heap := h }) := by
  have hlt : j < l.length := (List.getElem?_eq_some_iff.1 hj).1
  have h1 : (j : Int) < l.length := by omega
  have h2 : (ofBytes l)[j]? = some (.int .u8 x.toNat) := by simp [ofBytes, hj]
  have w : IntKind.i64.wrap ((j : Int) + 1) = ((j + 1 : Nat) : Int) := by
    simp [IntKind.wrap, IntKind.bits, IntKind.signed]
    omega
  have w2 : IntKind.u64.wrap (x.toNat : Int) = x.toNat := wrap_u64 (by omega) (by have := x.toNat_lt; omega)
  simp only [body17_eq, p17, E17]
  simp [h1, h2, w, w2]

theorem exit17 (call : VVE.Call) (n : Nat) (app : Bool) (l : List UInt8) (s : Int) (h : List Obj') :
    evC call n body17 { env := E17 app .undef l s l.length, heap := h } = some (.exit 0, { env := E17 app (.bool false) l s l.length, heap := h }) := by
  simp only [body17_eq, p17, E17]
  simp

theorem loop17 (call : VVE.Call) (n : Nat) (app : Bool) (l : List UInt8) (hl : l.length < 2 ^ 40) (h : List Obj') : ∀ (r : List UInt8) (j : Nat) (s : Int), l.drop j = r → j ≤ l.length → ∀ k, r.length < k →
    iter (evC call n body17) k { env := E17 app .undef l s j, heap := h } = some (.exit 0, { env := E17 app (.bool false) l (sumV s r) l.length, heap := h })
  | _, _, _, _, _, 0, hk => by omega
  | [], j, s, hr, hj, k + 1, hk => by
    have : j = l.length := by
      have := congrArg List.length hr
      simp at this
      omega
    subst this
    rw [iter_succ, exit17]
    rfl
  | x :: r, j, s, hr, hj, k + 1, hk => by
    have hx : l[j]? = some x := by
      have := congrArg (·[0]?) hr
      simpa using this
    have hlt : j < l.length := (List.getElem?_eq_some_iff.1 hx).1
    rw [iter_succ, round17 call n app l s j hl x hx, loopC_normal]
    refine loop17 call n app l hl h r (j + 1) _ ?_ hlt k (by simpa using hk)
    rw [List.drop_add_one_eq_tail_drop, hr]
    rfl

theorem sum17_run (call : VVE.Call) (n : Nat) (l : List UInt8) (hn : l.length < n) (hl : l.length < 2 ^ 40) (app : Bool) (h : List Obj') :
    evF call n p17 [.sl app (ofBytes l)] h = some (.int .u64 (sumV 14695981039346656037 l), h) := by
  have k := loop17 call n app l hl h l 0 14695981039346656037 rfl (by omega) n hn
  simp only [body17_eq, p17, E17] at k
  unfold evF
  simp only [p17]
  simp at k
  simp [evC_loop, k]

def body16 : IC := match p16.body with | .seq _ (.block _ (.loop c)) => c | _ => .stop
theorem body16_eq : body16 = (match p16.body with | .seq _ (.block _ (.loop c)) => c | _ => .stop) := rfl

def E16 (t6 : V) (d k : Nat) : List V :=
  [.ref 0 0, .int .u64 d, .undef, .undef, .int .i64 k, .undef, t6, .undef, .undef, .undef, .undef, .undef, .undef, .undef, .undef, .undef, .undef, .undef, .undef, .undef, .undef, .undef, .undef, .undef]

theorem round16 (call : VVE.Call) (n d k : Nat) (hk : k < 8) (bs : List UInt8) (hb : bs.length < 2 ^ 38) (rest : List Obj') :
    evC call n body16 { env := E16 .undef d k, heap := .cells [.sl true (ofBytes bs)] :: rest } =
      some (.normal, { env := E16 .undef d (k + 1), heap := .cells [.sl true (ofBytes (bs ++ [byteAt d k]))] :: rest }) := by
  have h1 : (k : Int) < 8 := by omega
  have h2 : bs.length + 1 ≤ 1099511627776 := by omega
  have w1 : IntKind.i64.wrap (8 * (k : Int)) = ((8 * k : Nat) : Int) := by
    simp [IntKind.wrap, IntKind.bits, IntKind.signed]
    omega
  have w5 : IntKind.u64.wrap ((8 * k : Nat) : Int) = ((8 * k : Nat) : Int) := wrap_u64 (by omega) (by omega)
  have w2 : IntKind.i64.wrap ((k : Int) + 1) = ((k + 1 : Nat) : Int) := by
    simp [IntKind.wrap, IntKind.bits, IntKind.signed]
    omega
  have w3 : ¬ ((8 * k : Nat) : Int) < 0 := by omega
  have w4 : ((8 * k : Nat) : Int).toNat = 8 * k := by omega
  have h3 := shr8 d (8 * k) (by omega)
  have h4 : [V.int .u8 ((d / 2 ^ (8 * k) % 256 : Nat) : Int)] = ofBytes [byteAt d k] := by
    rw [byte_eq _ (by omega)]
    simp [byteAt, ofBytes]
  generalize 8 * k = m at w1 w3 w4 w5 h3 h4
  generalize d / 2 ^ m % 256 = y at h3 h4
  simp only [body16_eq, p16, E16]
  simp [h1, h2, w1, w2, w3, w4, w5, h3, ofBytes_append]
  exact h4

theorem exit16 (call : VVE.Call) (n d : Nat) (h : List Obj') : evC call n body16 { env := E16 .undef d 8, heap := h } = some (.exit 0, { env := E16 (.bool false) d 8, heap := h }) := by
  simp only [body16_eq, p16, E16]
  simp

theorem long16_run (call : VVE.Call) (n d : Nat) (bs : List UInt8) (hb : bs.length < 2 ^ 37) (rest : List Obj') :
    evF call (n + 10) p16 [.ref 0 0, .int .u64 d] (.cells [.sl true (ofBytes bs)] :: rest) = some (.tup [], .cells [.sl true (ofBytes (bs ++ bytes8 d))] :: rest) := by
  have key : iter (evC call (n + 10) body16) (n + 10) { env := E16 .undef d 0, heap := .cells [.sl true (ofBytes bs)] :: rest } =
      some (.exit 0, { env := E16 (.bool false) d 8, heap := .cells [.sl true (ofBytes (bs ++ bytes8 d))] :: rest }) := by
    rw [iter_succ, round16 _ _ _ 0 (by omega) _ (by simp; omega), loopC_normal]
    rw [iter_succ, round16 _ _ _ 1 (by omega) _ (by simp; omega), loopC_normal]
    rw [iter_succ, round16 _ _ _ 2 (by omega) _ (by simp; omega), loopC_normal]
    rw [iter_succ, round16 _ _ _ 3 (by omega) _ (by simp; omega), loopC_normal]
    rw [iter_succ, round16 _ _ _ 4 (by omega) _ (by simp; omega), loopC_normal]
    rw [iter_succ, round16 _ _ _ 5 (by omega) _ (by simp; omega), loopC_normal]
    rw [iter_succ, round16 _ _ _ 6 (by omega) _ (by simp; omega), loopC_normal]
    rw [iter_succ, round16 _ _ _ 7 (by omega) _ (by simp; omega), loopC_normal]
    rw [iter_succ, exit16, loopC_exit]
    simp [bytes8]
  simp only [body16_eq, p16, E16] at key
  unfold evF
  simp only [p16]
  simp at key
  simp [evC_loop, key]

def NumOk (call : VVE.Call) : Prop := ∀ (x : Int), -(2 ^ 63) ≤ x → x < 2 ^ 63 → ∀ (bs : List UInt8), bs.length < 2 ^ 38 → ∀ (rest : List Obj'),
  call 40 [.ref 0 0, .int .i64 x] (.cells [.sl true (ofBytes bs)] :: rest) = some (.tup [], .cells [.sl true (ofBytes (bs ++ num x))] :: rest)

theorem str41_run (call : VVE.Call) (H : NumOk call) (n : Nat) (t : List UInt8) (ht : t.length < 2 ^ 30) (bs : List UInt8) (hb : bs.length < 2 ^ 37) (rest : List Obj') :
    evF call n p41 [.ref 0 0, .str t] (.cells [.sl true (ofBytes bs)] :: rest) = some (.tup [], .cells [.sl true (ofBytes (bs ++ txt t))] :: rest) := by
  have h := H t.length (by omega) (by omega) bs (by omega) rest
  have l2 := num_length (x := (t.length : Int)) (by omega) (by omega)
  have e1 : bs.length + (num t.length).length + t.length ≤ 1099511627776 := by omega
  have last : ofBytes (bs ++ num t.length) ++ ofBytes t = ofBytes (bs ++ txt t) := by rw [← ofBytes_append, List.append_assoc, txt, num]
  unfold evF
  simp only [p41]
  by_cases h0 : t = []
  · subst h0
    simp only [List.length_nil, Int.ofNat_zero, show (((0 : Nat) : Int)) = 0 from rfl] at h e1 last
    simp at e1
    simp [h, e1]
    simp [show ofBytes [] = [] from rfl, txt, num]
  · have h1 : ofBytes t ≠ [] := by simpa [ofBytes] using h0
    simp [h, e1, h1, last]

def StrOk (call : VVE.Call) : Prop := ∀ (t : List UInt8), t.length < 2 ^ 30 → ∀ (bs : List UInt8), bs.length < 2 ^ 37 → ∀ (rest : List Obj'),
  call 41 [.ref 0 0, .str t] (.cells [.sl true (ofBytes bs)] :: rest) = some (.tup [], .cells [.sl true (ofBytes (bs ++ txt t))] :: rest)

theorem truth42_run (call : VVE.Call) (H : NumOk call) (n : Nat) (bs : List UInt8) (hb : bs.length < 2 ^ 37) (rest : List Obj') :
    evF call n p42 [.ref 0 0, .bool false] (.cells [.sl true (ofBytes bs)] :: rest) = some (.tup [], .cells [.sl true (ofBytes (bs ++ [0]))] :: rest) := by
  have h := H 0 (by omega) (by omega) bs (by omega) rest
  rw [num0] at h
  unfold evF
  simp only [p42]
  simp [h]

theorem strs43_run (call : VVE.Call) (H : NumOk call) (n : Nat) (app : Bool) (bs : List UInt8) (hb : bs.length < 2 ^ 37) (rest : List Obj') :
    evF call (n + 3) p43 [.ref 0 0, .sl app []] (.cells [.sl true (ofBytes bs)] :: rest) = some (.tup [], .cells [.sl true (ofBytes (bs ++ [0]))] :: rest) := by
  have h := H 0 (by omega) (by omega) bs (by omega) rest
  rw [num0] at h
  unfold evF
  simp only [p43]
  simp [evC_loop, iter_succ, h]

end Go.Proofs.YtflciaomdlgjpaaGreatDoor.VVE.Obj

namespace Go.Proofs.YtflciaomdlgjpaaGreatDoor.VVE.Obj
open Go Go.Proofs.YtflciaomdlgjpaaGreatDoor.VVE

theorem skel36_run (call : VVE.Call) (n : Nat) (b : Nat → Bool) (nm t : List UInt8) (r l k : Int) (h : List Obj') :
    evF call (n + 3) p36 [.agg (modV b nm t r l k)] h = some (.bool true, h) := by
  unfold evF
  simp only [p36, modV]
  simp [evC_loop, iter_succ]

def Skel36Ok (call : VVE.Call) : Prop := ∀ (b : Nat → Bool) (nm t : List UInt8) (r l k : Int) (h : List Obj'), call 36 [.agg (modV b nm t r l k)] h = some (.bool true, h)

set_option maxRecDepth 20000 in
theorem valid13_run (call : VVE.Call) (H : Skel36Ok call) (n : Nat) (b : Nat → Bool) (c : UInt8) (cs t : List UInt8) (r l k a : Int) (d : Nat) (h : List Obj') (hr0 : 0 ≤ r) (hr1 : r ≤ 1000) (ha0 : 1 ≤ a) (ha1 : a ≤ 1000) :
    evF call (n + 3) p13 [.agg (objV b (c :: cs) t r l k a d)] h = some (.int .i64 0, h) := by
  have k1 := H (fun i => if i = 2 ∨ i = 3 then b i else false) (c :: cs) t r l k h
  have e1 : ¬ r < 0 := by omega
  have e2 : ¬ 1000 < r := by omega
  have e3 : ¬ a < 1 := by omega
  have e4 : ¬ 1000 < a := by omega
  unfold evF
  simp only [p13, modV, objV] at *
  simp at k1
  simp [evC_loop, iter_succ, k1, e1, e2, e3, e4]

def Valid13Ok (call : VVE.Call) : Prop := ∀ (b : Nat → Bool) (c : UInt8) (cs t : List UInt8) (r l k a : Int) (d : Nat) (h : List Obj'), 0 ≤ r → r ≤ 1000 → 1 ≤ a → a ≤ 1000 →
  call 13 [.agg (objV b (c :: cs) t r l k a d)] h = some (.int .i64 0, h)

def Truth42Ok (call : VVE.Call) : Prop := ∀ (bs : List UInt8), bs.length < 2 ^ 37 → ∀ (rest : List Obj'),
  call 42 [.ref 0 0, .bool false] (.cells [.sl true (ofBytes bs)] :: rest) = some (.tup [], .cells [.sl true (ofBytes (bs ++ [0]))] :: rest)

def Strs43Ok (call : VVE.Call) : Prop := ∀ (app : Bool) (bs : List UInt8), bs.length < 2 ^ 37 → ∀ (rest : List Obj'),
  call 43 [.ref 0 0, .sl app []] (.cells [.sl true (ofBytes bs)] :: rest) = some (.tup [], .cells [.sl true (ofBytes (bs ++ [0]))] :: rest)

def Long16Ok (call : VVE.Call) : Prop := ∀ (d : Nat) (bs : List UInt8), bs.length < 2 ^ 37 → ∀ (rest : List Obj'),
  call 16 [.ref 0 0, .int .u64 d] (.cells [.sl true (ofBytes bs)] :: rest) = some (.tup [], .cells [.sl true (ofBytes (bs ++ bytes8 d))] :: rest)

def Sum17Ok (call : VVE.Call) : Prop := ∀ (l : List UInt8), l.length < 200000 → ∀ (app : Bool) (h : List Obj'), call 17 [.sl app (ofBytes l)] h = some (.int .u64 (sumN l), h)

set_option maxHeartbeats 4000000 in
set_option maxRecDepth 20000 in
theorem module14_run (call : VVE.Call) (H1 : NumOk call) (H2 : StrOk call) (H3 : Truth42Ok call) (H4 : Strs43Ok call) (n : Nat)
    (b : Nat → Bool) (nm t : List UInt8) (hnm : nm.length < 2 ^ 30) (ht : t.length < 2 ^ 30) (r l k : Int) (hr0 : -(2 ^ 63) ≤ r) (hr1 : r < 2 ^ 63) (hl0 : -(2 ^ 63) ≤ l) (hl1 : l < 2 ^ 63) (hk0 : -(2 ^ 63) ≤ k) (hk1 : k < 2 ^ 63)
    (bs : List UInt8) (hb : bs.length < 2 ^ 33) :
    evF call (n + 3) p14 [.ref 0 0, .agg (modV b nm t r l k)] [.cells [.sl true (ofBytes bs)]] = some (.tup [], [.cells [.sl true (ofBytes (bs ++ modB nm t r l k))]]) := by
  have l1 := txt_length ht
  have l2 := txt_length hnm
  have l3 := num_length hr0 hr1
  have l4 := num_length hl0 hl1
  have l5 := num_length hk0 hk1
  have l6 := num_length (x := 1) (by omega) (by omega)
  have l7 := num_length (x := 0) (by omega) (by omega)
  have k1 := H1 1 (by omega) (by omega) bs (by omega) []
  have k2 := H2 nm hnm (bs ++ num 1) (by simp; omega) []
  have k3 := H1 r hr0 hr1 (bs ++ num 1 ++ txt nm) (by simp; omega) []
  have k4 := H1 1 (by omega) (by omega) (bs ++ num 1 ++ txt nm ++ num r) (by simp; omega) []
  have k5 := H2 t ht (bs ++ num 1 ++ txt nm ++ num r ++ num 1) (by simp; omega) []
  have k6 := H1 l hl0 hl1 (bs ++ num 1 ++ txt nm ++ num r ++ num 1 ++ txt t) (by simp; omega) []
  have k7 := H1 1 (by omega) (by omega) (bs ++ num 1 ++ txt nm ++ num r ++ num 1 ++ txt t ++ num l) (by simp; omega) []
  have k8 := H1 k hk0 hk1 (bs ++ num 1 ++ txt nm ++ num r ++ num 1 ++ txt t ++ num l ++ num 1) (by simp; omega) []
  have k9 := H3 (bs ++ num 1 ++ txt nm ++ num r ++ num 1 ++ txt t ++ num l ++ num 1 ++ num k) (by simp; omega) []
  have k10 := H3 (bs ++ num 1 ++ txt nm ++ num r ++ num 1 ++ txt t ++ num l ++ num 1 ++ num k ++ [0]) (by simp; omega) []
  have k11 := H2 t ht (bs ++ num 1 ++ txt nm ++ num r ++ num 1 ++ txt t ++ num l ++ num 1 ++ num k ++ [0] ++ [0]) (by simp; omega) []
  have k12 := fun app => H4 app (bs ++ num 1 ++ txt nm ++ num r ++ num 1 ++ txt t ++ num l ++ num 1 ++ num k ++ [0] ++ [0] ++ txt t) (by simp; omega) []
  have k13 := H1 0 (by omega) (by omega) (bs ++ num 1 ++ txt nm ++ num r ++ num 1 ++ txt t ++ num l ++ num 1 ++ num k ++ [0] ++ [0] ++ txt t ++ [0]) (by simp; omega) []
  have k14 := H1 0 (by omega) (by omega) (bs ++ num 1 ++ txt nm ++ num r ++ num 1 ++ txt t ++ num l ++ num 1 ++ num k ++ [0] ++ [0] ++ txt t ++ [0] ++ num 0) (by simp; omega) []
  have k15 := H1 0 (by omega) (by omega) (bs ++ num 1 ++ txt nm ++ num r ++ num 1 ++ txt t ++ num l ++ num 1 ++ num k ++ [0] ++ [0] ++ txt t ++ [0] ++ num 0 ++ num 0) (by simp; omega) []
  have k16 := H1 0 (by omega) (by omega) (bs ++ num 1 ++ txt nm ++ num r ++ num 1 ++ txt t ++ num l ++ num 1 ++ num k ++ [0] ++ [0] ++ txt t ++ [0] ++ num 0 ++ num 0 ++ num 0) (by simp; omega) []
  have k17 := H1 0 (by omega) (by omega) (bs ++ num 1 ++ txt nm ++ num r ++ num 1 ++ txt t ++ num l ++ num 1 ++ num k ++ [0] ++ [0] ++ txt t ++ [0] ++ num 0 ++ num 0 ++ num 0 ++ num 0) (by simp; omega) []
  have hB : modB nm t r l k = num 1 ++ (txt nm ++ (num r ++ (num 1 ++ (txt t ++ (num l ++ (num 1 ++ (num k ++ (0 :: 0 :: (txt t ++ (0 :: (num 0 ++ (num 0 ++ (num 0 ++ (num 0 ++ num 0)))))))))))))) := by
    simp [modB, num0, num1]
  rw [hB]
  generalize num 1 = N1 at *
  generalize num 0 = N0 at *
  unfold evF
  simp only [p14, modV] at *
  simp at k1 k2 k3 k4 k5 k6 k7 k8 k9 k10 k11 k12 k13 k14 k15 k16 k17
  simp (maxSteps := 10000000) [evC_loop, iter_succ, k1, k2, k3, k4, k5, k6, k7, k8, k9, k10, k11, k12, k13, k14, k15, k16, k17]

end Go.Proofs.YtflciaomdlgjpaaGreatDoor.VVE.Obj

namespace Go.Proofs.YtflciaomdlgjpaaGreatDoor.VVE.Obj
open Go Go.Proofs.YtflciaomdlgjpaaGreatDoor.VVE

def restB (t : List UInt8) (a : Int) (d : Nat) : List UInt8 := [0, 0] ++ ([2] ++ (txt t ++ num a ++ bytes8 d))

set_option maxHeartbeats 1000000 in
set_option maxRecDepth 20000 in
theorem rest15_run (call : VVE.Call) (H1 : NumOk call) (H2 : StrOk call) (H3 : Long16Ok call) (n : Nat)
    (b : Nat → Bool) (nm t : List UInt8) (ht : t.length < 2 ^ 30) (r l k a : Int) (ha0 : -(2 ^ 63) ≤ a) (ha1 : a < 2 ^ 63) (d : Nat) (bs : List UInt8) (hb : bs.length < 2 ^ 33) :
    evF call (n + 3) p15 [.ref 0 0, .agg (objV b nm t r l k a d)] [.cells [.sl true (ofBytes bs)]] = some (.tup [], [.cells [.sl true (ofBytes (bs ++ restB t a d))]]) := by
  have l1 := txt_length ht
  have l3 := num_length ha0 ha1
  have k1 := H1 0 (by omega) (by omega) bs (by omega) []
  have k2 := H1 0 (by omega) (by omega) (bs ++ [0]) (by simp; omega) []
  have k3 := H1 1 (by omega) (by omega) (bs ++ [0] ++ [0]) (by simp; omega) []
  have k4 := H2 t ht (bs ++ [0] ++ [0] ++ [2]) (by simp; omega) []
  have k5 := H1 a ha0 ha1 (bs ++ [0] ++ [0] ++ [2] ++ txt t) (by simp; omega) []
  have k6 := H3 d (bs ++ [0] ++ [0] ++ [2] ++ txt t ++ num a) (by simp; omega) []
  rw [num0] at k1 k2
  rw [num1] at k3
  unfold evF
  simp only [p15, objV] at *
  simp at k1 k2 k3 k4 k5 k6
  simp [evC_loop, iter_succ, k1, k2, k3, k4, k5, k6, restB]

def Module14Ok (call : VVE.Call) : Prop := ∀ (b : Nat → Bool) (nm t : List UInt8), nm.length < 2 ^ 30 → t.length < 2 ^ 30 → ∀ (r l k : Int), -(2 ^ 63) ≤ r → r < 2 ^ 63 → -(2 ^ 63) ≤ l → l < 2 ^ 63 → -(2 ^ 63) ≤ k → k < 2 ^ 63 →
  ∀ (bs : List UInt8), bs.length < 2 ^ 33 → call 14 [.ref 0 0, .agg (modV b nm t r l k)] [.cells [.sl true (ofBytes bs)]] = some (.tup [], [.cells [.sl true (ofBytes (bs ++ modB nm t r l k))]])

def Rest15Ok (call : VVE.Call) : Prop := ∀ (b : Nat → Bool) (nm t : List UInt8), t.length < 2 ^ 30 → ∀ (r l k a : Int), -(2 ^ 63) ≤ a → a < 2 ^ 63 → ∀ (d : Nat) (bs : List UInt8), bs.length < 2 ^ 33 →
  call 15 [.ref 0 0, .agg (objV b nm t r l k a d)] [.cells [.sl true (ofBytes bs)]] = some (.tup [], [.cells [.sl true (ofBytes (bs ++ restB t a d))]])

theorem encode6_run (call : VVE.Call) (H1 : Valid13Ok call) (H2 : Module14Ok call) (H2' : Rest15Ok call) (H3 : Sum17Ok call) (H4 : Long16Ok call) (n : Nat) (b : Nat → Bool) (c : UInt8) (cs t : List UInt8) (hnm : cs.length < 1000) (ht : t.length < 1000) (r l k a : Int) (d : Nat)
    (hr0 : 0 ≤ r) (hr1 : r ≤ 1000) (hl0 : -(2 ^ 63) ≤ l) (hl1 : l < 2 ^ 63) (hk0 : -(2 ^ 63) ≤ k) (hk1 : k < 2 ^ 63) (ha0 : 1 ≤ a) (ha1 : a ≤ 1000) :
    evF call n p6 [.agg (objV b (c :: cs) t r l k a d)] [] = some (.tup [.sl false (ofBytes (encB (c :: cs) t r l k a d)), .int .i64 0], []) := by
  have lo := objB_length (nm := c :: cs) (t := t) (r := r) (l := l) (k := k) (a := a) d (by simp; omega) (by omega) (by omega) (by omega) hl0 hl1 hk0 hk1 (by omega) (by omega)
  simp only [List.length_cons] at lo
  have eB : objB (c :: cs) t r l k a d = modB (c :: cs) t r l k ++ restB t a d := by simp [objB, restB]
  have lB : (modB (c :: cs) t r l k).length ≤ (objB (c :: cs) t r l k a d).length := by rw [eB]; simp
  have k1 := H1 (fun i => if i = 2 ∨ i = 3 then b i else false) c cs t r l k a d [] hr0 hr1 ha0 ha1
  have k2 := H2 (fun i => if i = 2 ∨ i = 3 then b i else false) (c :: cs) t (by simp; omega) (by omega) r l k (by omega) (by omega) hl0 hl1 hk0 hk1 magic (by simp [magic])
  have k2' := H2' (fun i => if i = 2 ∨ i = 3 then b i else false) (c :: cs) t (by omega) r l k a (by omega) (by omega) d (magic ++ modB (c :: cs) t r l k) (by simp [magic]; omega)
  rw [List.append_assoc, ← eB] at k2'
  have k3 := H3 (magic ++ objB (c :: cs) t r l k a d) (by simp [magic]; omega) false [.cells [.sl true (ofBytes (magic ++ objB (c :: cs) t r l k a d))]]
  have k4 := H4 (sumN (magic ++ objB (c :: cs) t r l k a d)) (magic ++ objB (c :: cs) t r l k a d) (by simp [magic]; omega) []
  have hm : ofBytes magic = [.int .u8 76, .int .u8 69, .int .u8 79, .int .u8 1] := rfl
  have hX : (magic ++ objB (c :: cs) t r l k a d).length < 190000 := by simp [magic]; omega
  have h8 : (bytes8 (sumN (magic ++ objB (c :: cs) t r l k a d))).length = 8 := rfl
  unfold encB
  generalize magic ++ objB (c :: cs) t r l k a d = X at *
  have lx : ¬ (200000 : Int) < (X.length : Int) + 8 := by omega
  generalize bytes8 (sumN X) = S at *
  unfold evF
  simp only [p6, objV, modV] at *
  rw [hm] at k2
  generalize magic ++ modB (c :: cs) t r l k = Y at *
  simp at k1 k2 k2'
  simp [k1, k2, k2', k3, k4, lx, h8]

end Go.Proofs.YtflciaomdlgjpaaGreatDoor.VVE.Obj

namespace Go.Proofs.YtflciaomdlgjpaaGreatDoor.VVE.Obj
open Go Go.Proofs.YtflciaomdlgjpaaGreatDoor.VVE

def prg (f : Nat) : Option IFunc :=
  match f with
  | 3 => some p3
  | 4 => some p4
  | 5 => some p5
  | 6 => some p6
  | 7 => some p7
  | 8 => some p8
  | 9 => some p9
  | 10 => some p10
  | 11 => some p11
  | 12 => some p12
  | 13 => some p13
  | 14 => some p14
  | 15 => some p15
  | 16 => some p16
  | 17 => some p17
  | 18 => some p18
  | 19 => some p19
  | 20 => some p20
  | 21 => some p21
  | 25 => some p25
  | 26 => some p26
  | 28 => some p28
  | 32 => some p32
  | 33 => some p33
  | 34 => some p34
  | 35 => some p35
  | 36 => some p36
  | 40 => some p40
  | 41 => some p41
  | 42 => some p42
  | 43 => some p43
  | 49 => some p49
  | 50 => some p50
  | 52 => some p52
  | 56 => some p56
  | 57 => some p57
  | 58 => some p58
  | 59 => some p59
  | 60 => some p60
  | 61 => some p61
  | 75 => some p75
  | 76 => some p76
  | 77 => some p77
  | 78 => some p78
  | 79 => some p79
  | 80 => some p80
  | 81 => some p81
  | 83 => some p83
  | 88 => some p88
  | 92 => some p92
  | 98 => some p98
  | 111 => some p111
  | 123 => some p123
  | 124 => some p124
  | 125 => some p125
  | 126 => some p126
  | 127 => some p127
  | 128 => some p128
  | 129 => some p129
  | 131 => some p131
  | 136 => some p136
  | 140 => some p140
  | 146 => some p146
  | 151 => some p151
  | 161 => some p161
  | 162 => some p162
  | 183 => some p183
  | 200 => some p200
  | _ => none

theorem awake_run : ev prg 200200 4 [] [] = some (.bool true, []) := by kernel_rfl

end Go.Proofs.YtflciaomdlgjpaaGreatDoor.VVE.Obj

namespace Go.Proofs.YtflciaomdlgjpaaGreatDoor.VVE.Obj
open Go Go.Proofs.YtflciaomdlgjpaaGreatDoor.VVE

def EncOk (f : Nat) (call : VVE.Call) : Prop := ∀ (b : Nat → Bool) (c : UInt8) (cs t : List UInt8), cs.length < 1000 → t.length < 1000 → ∀ (r l k a : Int) (d : Nat), 0 ≤ r → r ≤ 1000 → -(2 ^ 63) ≤ l → l < 2 ^ 63 → -(2 ^ 63) ≤ k → k < 2 ^ 63 → 1 ≤ a → a ≤ 1000 →
  call f [.agg (objV b (c :: cs) t r l k a d)] [] = some (.tup [.sl false (ofBytes (encB (c :: cs) t r l k a d)), .int .i64 0], [])

def DecOk (call : VVE.Call) : Prop := ∀ (c : UInt8) (cs t : List UInt8), cs.length < 1000 → t.length < 1000 → ∀ (r l k a : Int) (d : Nat), d < 2 ^ 64 → 0 ≤ r → r ≤ 1000 → -(2 ^ 63) ≤ l → l < 2 ^ 63 → -(2 ^ 63) ≤ k → k < 2 ^ 63 → 1 ≤ a → a ≤ 1000 → ∀ (app : Bool),
  call 7 [.sl app (ofBytes (encB (c :: cs) t r l k a d))] [] = some (.tup [.agg (objV (fun _ => false) (c :: cs) t r l k a d), .int .i64 0], [])

def SameOk (call : VVE.Call) : Prop := ∀ (b b' : Nat → Bool) (nm t : List UInt8), nm.length < 2 ^ 30 → t.length < 2 ^ 30 → ∀ (r l k a : Int), -(2 ^ 63) ≤ r → r < 2 ^ 63 → -(2 ^ 63) ≤ l → l < 2 ^ 63 → -(2 ^ 63) ≤ k → k < 2 ^ 63 → -(2 ^ 63) ≤ a → a < 2 ^ 63 → ∀ (d : Nat),
  call 8 [.agg (objV b nm t r l k a d), .agg (objV b' nm t r l k a d)] [] = some (.bool true, [])

set_option maxRecDepth 20000 in
theorem law_run (call : VVE.Call) (H4 : call 4 [] [] = some (.bool true, [])) (H5 : EncOk 5 call) (H6 : EncOk 6 call) (H7 : DecOk call) (H8 : SameOk call) (n rel line dig : Nat) (hrel : rel < 2 ^ 64) (hline : line < 2 ^ 64) (hdig : dig < 2 ^ 64) (t : List UInt8) (k : Int)
    (hk0 : -(2 ^ 63) ≤ k) (hk1 : k < 2 ^ 63) :
    evF call n p3 [.int .u64 rel, .int .u64 line, .int .u64 dig, .str t, .int .i64 k] [] = some (.bool true, []) := by
  by_cases ht : 200 < t.length
  · have e1 : (200 : Int) < t.length := by omega
    unfold evF
    simp only [p3]
    simp [e1, H4]
  · have e1 : ¬ (200 : Int) < t.length := by omega
    have w1 : IntKind.i64.wrap ((rel : Int).tmod 1001) = (rel % 1001 : Nat) := by
      rw [Int.tmod_eq_emod_of_nonneg (by omega)]
      simp [IntKind.wrap, IntKind.bits, IntKind.signed]
      omega
    have w2 : IntKind.i64.wrap (1 + IntKind.i64.wrap ((line : Int).tmod 1000)) = (1 + line % 1000 : Nat) := by
      rw [Int.tmod_eq_emod_of_nonneg (by omega)]
      simp [IntKind.wrap, IntKind.bits, IntKind.signed]
      omega
    have w3 : -(2 ^ 63) ≤ IntKind.i64.wrap (line : Int) ∧ IntKind.i64.wrap (line : Int) < 2 ^ 63 := by
      simp [IntKind.wrap, IntKind.bits, IntKind.signed]
      omega
    obtain ⟨w30, w31⟩ := w3
    have a0 : (1 : Int) ≤ ((1 + line % 1000 : Nat) : Int) := by omega
    have a1 : ((1 + line % 1000 : Nat) : Int) ≤ 1000 := by omega
    have r0 : (0 : Int) ≤ ((rel % 1001 : Nat) : Int) := by omega
    have r1 : ((rel % 1001 : Nat) : Int) ≤ 1000 := by omega
    have k5 := H5 (fun _ => false) 97 t t (by omega) (by omega) _ _ k _ dig r0 r1 w30 w31 hk0 hk1 a0 a1
    have k6 := H6 (fun _ => false) 97 t t (by omega) (by omega) _ _ k _ dig r0 r1 w30 w31 hk0 hk1 a0 a1
    have k7 := H7 97 t t (by omega) (by omega) _ _ k _ dig hdig r0 r1 w30 w31 hk0 hk1 a0 a1
    have k8 := H8 (fun _ => false) (fun _ => false) (97 :: t) t (by simp; omega) (by omega) ((rel % 1001 : Nat) : Int) (IntKind.i64.wrap (line : Int)) k ((1 + line % 1000 : Nat) : Int) (by omega) (by omega) w30 w31 hk0 hk1 (by omega) (by omega) dig
    generalize hR : ((rel % 1001 : Nat) : Int) = R at *
    generalize hA : ((1 + line % 1000 : Nat) : Int) = A at *
    generalize encB (97 :: t) t R (IntKind.i64.wrap (line : Int)) k A dig = E at *
    have e2 : 1 + t.length ≤ 1099511627776 := by omega
    unfold evF
    simp only [p3, objV] at *
    simp at k7
    simp [e1, e2, w1, w2, k5, k6, k7, k8, H4, toByte_list]

end Go.Proofs.YtflciaomdlgjpaaGreatDoor.VVE.Obj

namespace Go.Proofs.YtflciaomdlgjpaaGreatDoor.VVE.Obj
open Go Go.Proofs.YtflciaomdlgjpaaGreatDoor.VVE

def IndexOk (call : VVE.Call) : Prop := ∀ (app : Bool) (k : Nat) (a b : List V) (h : List Obj'), call 162 [.sl app [], .clo k a b] h = some (.int .i64 (-1), h)

def ContainsOk (call : VVE.Call) : Prop := ∀ (app : Bool) (k : Nat) (a b : List V) (h : List Obj'), call 61 [.sl app [], .clo k a b] h = some (.bool false, h)

def RImportOk (call : VVE.Call) : Prop := ∀ (t : List UInt8), t.length < 2 ^ 20 → ∀ (x : Int), -(2 ^ 63) ≤ x → x < 2 ^ 63 → ∀ (r : List UInt8), r.length < 2 ^ 27 → ∀ (app : Bool) (bad fl : V) (X : Obj') (rest : List Obj'),
    call 124 [.ref 2 0] (.cells [.sl app (ofBytes (txt t ++ (num x ++ r))), bad, fl] :: X :: box0 :: rest) =
      some (.agg [.str t, .int .i64 x], .cells [.sl false (ofBytes r), bad, fl] :: X :: box0 :: rest)

def RAgainstOk (call : VVE.Call) : Prop := ∀ (t : List UInt8), t.length < 2 ^ 20 → ∀ (x : Int), -(2 ^ 63) ≤ x → x < 2 ^ 63 → ∀ (d : Nat), d < 2 ^ 64 → ∀ (r : List UInt8), r.length < 2 ^ 27 → ∀ (app : Bool) (bad fl : V) (rest : List Obj'),
    call 57 [.ref 1 0] (.cells [.sl app (ofBytes (txt t ++ (num x ++ (bytes8 d ++ r)))), bad, fl] :: box0 :: rest) =
      some (.agg [.str t, .int .i64 x, .int .u64 d], .cells [.sl false (ofBytes r), bad, fl] :: box0 :: rest)

def RStructOk (call : VVE.Call) : Prop := ∀ (t : List UInt8), t.length < 2 ^ 20 → ∀ (x : Int), -(2 ^ 63) ≤ x → x < 2 ^ 63 → ∀ (r : List UInt8), r.length < 2 ^ 26 → ∀ (app : Bool) (bad fl : V) (X : Obj') (rest : List Obj'),
    call 126 [.ref 2 0] (.cells [.sl app (ofBytes (num x ++ ([0] ++ ([0] ++ (txt t ++ ([0] ++ ([0] ++ r))))))), bad, fl] :: X :: box0 :: rest) =
      some (.agg [.int .i64 x, .bool false, .bool false, .str t, .sl false [], .sl false []], .cells [.sl false (ofBytes r), bad, fl] :: X :: box0 :: rest)

theorem ev_eq {f : Nat} {fn : IFunc} (h : prg f = some fn) (n : Nat) (args : List V) (hp : List Obj') : ev prg (n + 1) f args hp = evF (ev prg n) n fn args hp := by
  simp [ev, h]

theorem ok_num (n : Nat) (hn : 200101 ≤ n) : NumOk (ev prg n) := by
  obtain ⟨m, rfl⟩ : ∃ m, n = m + 11 := ⟨n - 11, by omega⟩
  unfold NumOk
  intros
  refine (ev_eq (f := 40) (fn := p40) rfl (m + 10) _ _).trans ?_
  apply num_run (ev prg (m + 10)) <;> first | assumption | omega

theorem ok_number (n : Nat) (hn : 200101 ≤ n) : NumberOk (ev prg n) := by
  obtain ⟨m, rfl⟩ : ∃ m, n = m + 11 := ⟨n - 11, by omega⟩
  unfold NumberOk
  intros
  refine (ev_eq (f := 111) (fn := p111) rfl (m + 10) _ _).trans ?_
  apply number_run (ev prg (m + 10)) <;> first | assumption | omega

theorem ok_numbers (n : Nat) (hn : 200102 ≤ n) : NumbersOk (ev prg n) := by
  obtain ⟨m, rfl⟩ : ∃ m, n = m + 11 := ⟨n - 11, by omega⟩
  have h_number := ok_number (m + 10) (by omega)
  unfold NumbersOk
  intros
  refine (ev_eq (f := 35) (fn := p35) rfl (m + 10) _ _).trans ?_
  apply numbers_run (ev prg (m + 10)) h_number <;> first | assumption | omega

theorem ok_truth (n : Nat) (hn : 200102 ≤ n) : TruthOk (ev prg n) := by
  obtain ⟨m, rfl⟩ : ∃ m, n = m + 11 := ⟨n - 11, by omega⟩
  have h_number := ok_number (m + 10) (by omega)
  unfold TruthOk
  intros
  refine (ev_eq (f := 79) (fn := p79) rfl (m + 10) _ _).trans ?_
  apply truth_run (ev prg (m + 10)) h_number <;> first | assumption | omega

theorem ok_text (n : Nat) (hn : 200103 ≤ n) : TextOk (ev prg n) := by
  obtain ⟨m, rfl⟩ : ∃ m, n = m + 11 := ⟨n - 11, by omega⟩
  have h_numbers := ok_numbers (m + 10) (by omega)
  intro t ht bs hb fl rest
  refine (ev_eq (f := 34) (fn := p34) rfl (m + 10) _ _).trans ?_
  rw [text_run _ h_numbers _ t ht bs hb fl rest, List.append_assoc]
  rfl

theorem ok_long (n : Nat) (hn : 200101 ≤ n) : LongOk (ev prg n) := by
  obtain ⟨m, rfl⟩ : ∃ m, n = m + 11 := ⟨n - 11, by omega⟩
  unfold LongOk
  intros
  refine (ev_eq (f := 11) (fn := p11) rfl (m + 10) _ _).trans ?_
  apply long_run (ev prg (m + 10)) <;> first | assumption | omega

theorem ok_nil183 (n : Nat) (hn : 200103 ≤ n) : NilOk (ev prg n) 183 := by
  obtain ⟨m, rfl⟩ : ∃ m, n = m + 11 := ⟨n - 11, by omega⟩
  have h_numbers := ok_numbers (m + 10) (by omega)
  unfold NilOk
  intros
  refine (ev_eq (f := 183) (fn := p183) rfl (m + 10) _ _).trans ?_
  apply nil183 (ev prg (m + 10)) h_numbers <;> first | assumption | omega

theorem ok_nil81 (n : Nat) (hn : 200103 ≤ n) : NilOk (ev prg n) 81 := by
  obtain ⟨m, rfl⟩ : ∃ m, n = m + 11 := ⟨n - 11, by omega⟩
  have h_numbers := ok_numbers (m + 10) (by omega)
  unfold NilOk
  intros
  refine (ev_eq (f := 81) (fn := p81) rfl (m + 10) _ _).trans ?_
  apply nil81 (ev prg (m + 10)) h_numbers <;> first | assumption | omega

theorem ok_nil83 (n : Nat) (hn : 200103 ≤ n) : NilOk (ev prg n) 83 := by
  obtain ⟨m, rfl⟩ : ∃ m, n = m + 11 := ⟨n - 11, by omega⟩
  have h_numbers := ok_numbers (m + 10) (by omega)
  unfold NilOk
  intros
  refine (ev_eq (f := 83) (fn := p83) rfl (m + 10) _ _).trans ?_
  apply nil83 (ev prg (m + 10)) h_numbers <;> first | assumption | omega

theorem ok_nil88 (n : Nat) (hn : 200103 ≤ n) : NilOk (ev prg n) 88 := by
  obtain ⟨m, rfl⟩ : ∃ m, n = m + 11 := ⟨n - 11, by omega⟩
  have h_numbers := ok_numbers (m + 10) (by omega)
  unfold NilOk
  intros
  refine (ev_eq (f := 88) (fn := p88) rfl (m + 10) _ _).trans ?_
  apply nil88 (ev prg (m + 10)) h_numbers <;> first | assumption | omega

theorem ok_nil92 (n : Nat) (hn : 200103 ≤ n) : NilOk (ev prg n) 92 := by
  obtain ⟨m, rfl⟩ : ∃ m, n = m + 11 := ⟨n - 11, by omega⟩
  have h_numbers := ok_numbers (m + 10) (by omega)
  unfold NilOk
  intros
  refine (ev_eq (f := 92) (fn := p92) rfl (m + 10) _ _).trans ?_
  apply nil92 (ev prg (m + 10)) h_numbers <;> first | assumption | omega

theorem ok_nil98 (n : Nat) (hn : 200103 ≤ n) : NilOk (ev prg n) 98 := by
  obtain ⟨m, rfl⟩ : ∃ m, n = m + 11 := ⟨n - 11, by omega⟩
  have h_numbers := ok_numbers (m + 10) (by omega)
  unfold NilOk
  intros
  refine (ev_eq (f := 98) (fn := p98) rfl (m + 10) _ _).trans ?_
  apply nil98 (ev prg (m + 10)) h_numbers <;> first | assumption | omega

theorem ok_nil26 (n : Nat) (hn : 200103 ≤ n) : NilOk (ev prg n) 26 := by
  obtain ⟨m, rfl⟩ : ∃ m, n = m + 11 := ⟨n - 11, by omega⟩
  have h_numbers := ok_numbers (m + 10) (by omega)
  unfold NilOk
  intros
  refine (ev_eq (f := 26) (fn := p26) rfl (m + 10) _ _).trans ?_
  apply nil26 (ev prg (m + 10)) h_numbers <;> first | assumption | omega

theorem ok_nil28 (n : Nat) (hn : 200103 ≤ n) : NilOk (ev prg n) 28 := by
  obtain ⟨m, rfl⟩ : ∃ m, n = m + 11 := ⟨n - 11, by omega⟩
  have h_numbers := ok_numbers (m + 10) (by omega)
  unfold NilOk
  intros
  refine (ev_eq (f := 28) (fn := p28) rfl (m + 10) _ _).trans ?_
  apply nil28 (ev prg (m + 10)) h_numbers <;> first | assumption | omega

theorem ok_texts (n : Nat) (hn : 200104 ≤ n) : TextsOk (ev prg n) := by
  obtain ⟨m, rfl⟩ : ∃ m, n = m + 11 := ⟨n - 11, by omega⟩
  have h_nil183 := ok_nil183 (m + 10) (by omega)
  unfold TextsOk
  intros
  refine (ev_eq (f := 80) (fn := p80) rfl (m + 10) _ _).trans ?_
  apply texts_run (ev prg (m + 10)) h_nil183 <;> first | assumption | omega

theorem ok_import (n : Nat) (hn : 200104 ≤ n) : ImportOk (ev prg n) := by
  obtain ⟨m, rfl⟩ : ∃ m, n = m + 11 := ⟨n - 11, by omega⟩
  have h_text := ok_text (m + 10) (by omega)
  have h_numbers := ok_numbers (m + 10) (by omega)
  unfold ImportOk
  intros
  refine (ev_eq (f := 76) (fn := p76) rfl (m + 10) _ _).trans ?_
  apply import_run (ev prg (m + 10)) h_text h_numbers <;> first | assumption | omega

theorem ok_imports (n : Nat) (hn : 200105 ≤ n) : ImportsOk (ev prg n) := by
  obtain ⟨m, rfl⟩ : ∃ m, n = m + 11 := ⟨n - 11, by omega⟩
  have h_numbers := ok_numbers (m + 10) (by omega)
  have h_import := ok_import (m + 10) (by omega)
  unfold ImportsOk
  intros
  refine (ev_eq (f := 75) (fn := p75) rfl (m + 10) _ _).trans ?_
  apply imports_run (ev prg (m + 10)) h_numbers h_import <;> first | assumption | omega

theorem ok_struct (n : Nat) (hn : 200105 ≤ n) : StructOk (ev prg n) := by
  obtain ⟨m, rfl⟩ : ∃ m, n = m + 11 := ⟨n - 11, by omega⟩
  have h_text := ok_text (m + 10) (by omega)
  have h_numbers := ok_numbers (m + 10) (by omega)
  have h_truth := ok_truth (m + 10) (by omega)
  have h_texts := ok_texts (m + 10) (by omega)
  have h_nil81 := ok_nil81 (m + 10) (by omega)
  unfold StructOk
  intros
  refine (ev_eq (f := 78) (fn := p78) rfl (m + 10) _ _).trans ?_
  apply struct_run (ev prg (m + 10)) h_text h_numbers h_truth h_texts h_nil81 <;> first | assumption | omega

theorem ok_structs (n : Nat) (hn : 200106 ≤ n) : StructsOk (ev prg n) := by
  obtain ⟨m, rfl⟩ : ∃ m, n = m + 11 := ⟨n - 11, by omega⟩
  have h_numbers := ok_numbers (m + 10) (by omega)
  have h_struct := ok_struct (m + 10) (by omega)
  unfold StructsOk
  intros
  refine (ev_eq (f := 77) (fn := p77) rfl (m + 10) _ _).trans ?_
  apply structs_run (ev prg (m + 10)) h_numbers h_struct <;> first | assumption | omega

theorem ok_against (n : Nat) (hn : 200104 ≤ n) : AgainstOk (ev prg n) := by
  obtain ⟨m, rfl⟩ : ∃ m, n = m + 11 := ⟨n - 11, by omega⟩
  have h_text := ok_text (m + 10) (by omega)
  have h_numbers := ok_numbers (m + 10) (by omega)
  have h_long := ok_long (m + 10) (by omega)
  unfold AgainstOk
  intros
  refine (ev_eq (f := 33) (fn := p33) rfl (m + 10) _ _).trans ?_
  apply against_run (ev prg (m + 10)) h_text h_numbers h_long <;> first | assumption | omega

theorem ok_againsts (n : Nat) (hn : 200105 ≤ n) : AgainstsOk (ev prg n) := by
  obtain ⟨m, rfl⟩ : ∃ m, n = m + 11 := ⟨n - 11, by omega⟩
  have h_numbers := ok_numbers (m + 10) (by omega)
  have h_against := ok_against (m + 10) (by omega)
  unfold AgainstsOk
  intros
  refine (ev_eq (f := 32) (fn := p32) rfl (m + 10) _ _).trans ?_
  apply againsts_run (ev prg (m + 10)) h_numbers h_against <;> first | assumption | omega

theorem ok_module (n : Nat) (hn : 200107 ≤ n) : ModuleOk (ev prg n) := by
  obtain ⟨m, rfl⟩ : ∃ m, n = m + 11 := ⟨n - 11, by omega⟩
  have h_text := ok_text (m + 10) (by omega)
  have h_numbers := ok_numbers (m + 10) (by omega)
  have h_imports := ok_imports (m + 10) (by omega)
  have h_structs := ok_structs (m + 10) (by omega)
  have h_nil83 := ok_nil83 (m + 10) (by omega)
  have h_nil88 := ok_nil88 (m + 10) (by omega)
  have h_nil92 := ok_nil92 (m + 10) (by omega)
  have h_nil98 := ok_nil98 (m + 10) (by omega)
  unfold ModuleOk
  intros
  refine (ev_eq (f := 25) (fn := p25) rfl (m + 10) _ _).trans ?_
  apply module_run (ev prg (m + 10)) h_text h_numbers h_imports h_structs h_nil83 h_nil88 h_nil92 h_nil98 <;> first | assumption | omega

theorem ok_object (n : Nat) (hn : 200108 ≤ n) : ObjectOk (ev prg n) := by
  obtain ⟨m, rfl⟩ : ∃ m, n = m + 11 := ⟨n - 11, by omega⟩
  have h_module := ok_module (m + 10) (by omega)
  have h_nil26 := ok_nil26 (m + 10) (by omega)
  have h_nil28 := ok_nil28 (m + 10) (by omega)
  have h_againsts := ok_againsts (m + 10) (by omega)
  unfold ObjectOk
  intros
  refine (ev_eq (f := 10) (fn := p10) rfl (m + 10) _ _).trans ?_
  apply object_run (ev prg (m + 10)) h_module h_nil26 h_nil28 h_againsts <;> first | assumption | omega

theorem ok_sum (n : Nat) (hn : 200101 ≤ n) : SumOk (ev prg n) := by
  obtain ⟨m, rfl⟩ : ∃ m, n = m + 11 := ⟨n - 11, by omega⟩
  intro l hl app h
  refine (ev_eq (f := 12) (fn := p12) rfl (m + 10) _ _).trans ?_
  rw [sum_run _ _ l (by omega) (by omega), sumN_eq]

theorem ok_sum17 (n : Nat) (hn : 200101 ≤ n) : Sum17Ok (ev prg n) := by
  obtain ⟨m, rfl⟩ : ∃ m, n = m + 11 := ⟨n - 11, by omega⟩
  intro l hl app h
  refine (ev_eq (f := 17) (fn := p17) rfl (m + 10) _ _).trans ?_
  rw [sum17_run _ _ l (by omega) (by omega), sumN_eq]

theorem ok_index (n : Nat) (hn : 200101 ≤ n) : IndexOk (ev prg n) := by
  obtain ⟨m, rfl⟩ : ∃ m, n = m + 11 := ⟨n - 11, by omega⟩
  unfold IndexOk
  intros
  refine (ev_eq (f := 162) (fn := p162) rfl (m + 10) _ _).trans ?_
  apply index_run (ev prg (m + 10)) <;> first | assumption | omega

theorem ok_contains (n : Nat) (hn : 200102 ≤ n) : ContainsOk (ev prg n) := by
  obtain ⟨m, rfl⟩ : ∃ m, n = m + 11 := ⟨n - 11, by omega⟩
  have h_index := ok_index (m + 10) (by omega)
  intro app k a b h
  refine (ev_eq (f := 61) (fn := p61) rfl (m + 10) _ _).trans ?_
  exact contains_run _ _ app k a b h (fun app => h_index app k a b h)

theorem ok_skel (n : Nat) (hn : 200103 ≤ n) : SkelOk (ev prg n) := by
  obtain ⟨m, rfl⟩ : ∃ m, n = m + 11 := ⟨n - 11, by omega⟩
  have h_contains := ok_contains (m + 10) (by omega)
  intro b nm t r l k h
  refine (ev_eq (f := 21) (fn := p21) rfl (m + 10) _ _).trans ?_
  exact skel_run _ (fun app h => h_contains app 62 [] [] h) _ b nm t r l k h

theorem ok_valid (n : Nat) (hn : 200104 ≤ n) : ValidOk (ev prg n) := by
  obtain ⟨m, rfl⟩ : ∃ m, n = m + 11 := ⟨n - 11, by omega⟩
  have h_skel := ok_skel (m + 10) (by omega)
  unfold ValidOk
  intros
  refine (ev_eq (f := 9) (fn := p9) rfl (m + 10) _ _).trans ?_
  apply valid_run (ev prg (m + 10)) h_skel <;> first | assumption | omega

theorem ok_encode (n : Nat) (hn : 200109 ≤ n) : EncOk 5 (ev prg n) := by
  obtain ⟨m, rfl⟩ : ∃ m, n = m + 11 := ⟨n - 11, by omega⟩
  have h_valid := ok_valid (m + 10) (by omega)
  have h_object := ok_object (m + 10) (by omega)
  have h_sum := ok_sum (m + 10) (by omega)
  have h_long := ok_long (m + 10) (by omega)
  unfold EncOk
  intros
  refine (ev_eq (f := 5) (fn := p5) rfl (m + 10) _ _).trans ?_
  apply encode_run (ev prg (m + 10)) h_valid h_object h_sum h_long <;> first | assumption | omega

theorem ok_rnumber (n : Nat) (hn : 200101 ≤ n) : RNumberOk (ev prg n) := by
  obtain ⟨m, rfl⟩ : ∃ m, n = m + 11 := ⟨n - 11, by omega⟩
  unfold RNumberOk
  intros
  refine (ev_eq (f := 161) (fn := p161) rfl (m + 10) _ _).trans ?_
  apply rnumber_run (ev prg (m + 10)) <;> first | assumption | omega

theorem ok_rint (n : Nat) (hn : 200102 ≤ n) : RIntOk (ev prg n) := by
  obtain ⟨m, rfl⟩ : ∃ m, n = m + 11 := ⟨n - 11, by omega⟩
  have h_rnumber := ok_rnumber (m + 10) (by omega)
  unfold RIntOk
  intros
  refine (ev_eq (f := 59) (fn := p59) rfl (m + 10) _ _).trans ?_
  apply rint_run (ev prg (m + 10)) h_rnumber <;> first | assumption | omega

theorem ok_within (n : Nat) (hn : 200102 ≤ n) : WithinOk (ev prg n) := by
  obtain ⟨m, rfl⟩ : ∃ m, n = m + 11 := ⟨n - 11, by omega⟩
  have h_rnumber := ok_rnumber (m + 10) (by omega)
  unfold WithinOk
  intros
  refine (ev_eq (f := 151) (fn := p151) rfl (m + 10) _ _).trans ?_
  apply within_run (ev prg (m + 10)) h_rnumber <;> first | assumption | omega

theorem ok_rtext (n : Nat) (hn : 200103 ≤ n) : RTextOk (ev prg n) := by
  obtain ⟨m, rfl⟩ : ∃ m, n = m + 11 := ⟨n - 11, by omega⟩
  have h_within := ok_within (m + 10) (by omega)
  unfold RTextOk
  intros
  refine (ev_eq (f := 58) (fn := p58) rfl (m + 10) _ _).trans ?_
  apply rtext_run (ev prg (m + 10)) h_within <;> first | assumption | omega

theorem ok_rtruth (n : Nat) (hn : 200103 ≤ n) : RTruthOk (ev prg n) := by
  obtain ⟨m, rfl⟩ : ∃ m, n = m + 11 := ⟨n - 11, by omega⟩
  have h_within := ok_within (m + 10) (by omega)
  unfold RTruthOk
  intros
  refine (ev_eq (f := 127) (fn := p127) rfl (m + 10) _ _).trans ?_
  apply rtruth_run (ev prg (m + 10)) h_within <;> first | assumption | omega

theorem ok_rnil200 (n : Nat) (hn : 200103 ≤ n) : RNilOk (ev prg n) 200 := by
  obtain ⟨m, rfl⟩ : ∃ m, n = m + 11 := ⟨n - 11, by omega⟩
  have h_within := ok_within (m + 10) (by omega)
  unfold RNilOk
  intros
  refine (ev_eq (f := 200) (fn := p200) rfl (m + 10) _ _).trans ?_
  apply rnil200 (ev prg (m + 10)) h_within <;> first | assumption | omega

theorem ok_rnil129 (n : Nat) (hn : 200103 ≤ n) : RNilOk (ev prg n) 129 := by
  obtain ⟨m, rfl⟩ : ∃ m, n = m + 11 := ⟨n - 11, by omega⟩
  have h_within := ok_within (m + 10) (by omega)
  unfold RNilOk
  intros
  refine (ev_eq (f := 129) (fn := p129) rfl (m + 10) _ _).trans ?_
  apply rnil129 (ev prg (m + 10)) h_within <;> first | assumption | omega

theorem ok_rnil131 (n : Nat) (hn : 200103 ≤ n) : RNilOk (ev prg n) 131 := by
  obtain ⟨m, rfl⟩ : ∃ m, n = m + 11 := ⟨n - 11, by omega⟩
  have h_within := ok_within (m + 10) (by omega)
  unfold RNilOk
  intros
  refine (ev_eq (f := 131) (fn := p131) rfl (m + 10) _ _).trans ?_
  apply rnil131 (ev prg (m + 10)) h_within <;> first | assumption | omega

theorem ok_rnil136 (n : Nat) (hn : 200103 ≤ n) : RNilOk (ev prg n) 136 := by
  obtain ⟨m, rfl⟩ : ∃ m, n = m + 11 := ⟨n - 11, by omega⟩
  have h_within := ok_within (m + 10) (by omega)
  unfold RNilOk
  intros
  refine (ev_eq (f := 136) (fn := p136) rfl (m + 10) _ _).trans ?_
  apply rnil136 (ev prg (m + 10)) h_within <;> first | assumption | omega

theorem ok_rnil140 (n : Nat) (hn : 200103 ≤ n) : RNilOk (ev prg n) 140 := by
  obtain ⟨m, rfl⟩ : ∃ m, n = m + 11 := ⟨n - 11, by omega⟩
  have h_within := ok_within (m + 10) (by omega)
  unfold RNilOk
  intros
  refine (ev_eq (f := 140) (fn := p140) rfl (m + 10) _ _).trans ?_
  apply rnil140 (ev prg (m + 10)) h_within <;> first | assumption | omega

theorem ok_rnil146 (n : Nat) (hn : 200103 ≤ n) : RNilOk (ev prg n) 146 := by
  obtain ⟨m, rfl⟩ : ∃ m, n = m + 11 := ⟨n - 11, by omega⟩
  have h_within := ok_within (m + 10) (by omega)
  unfold RNilOk
  intros
  refine (ev_eq (f := 146) (fn := p146) rfl (m + 10) _ _).trans ?_
  apply rnil146 (ev prg (m + 10)) h_within <;> first | assumption | omega

theorem ok_rnil50 (n : Nat) (hn : 200103 ≤ n) : RNilOk (ev prg n) 50 := by
  obtain ⟨m, rfl⟩ : ∃ m, n = m + 11 := ⟨n - 11, by omega⟩
  have h_within := ok_within (m + 10) (by omega)
  unfold RNilOk
  intros
  refine (ev_eq (f := 50) (fn := p50) rfl (m + 10) _ _).trans ?_
  apply rnil50 (ev prg (m + 10)) h_within <;> first | assumption | omega

theorem ok_rnil52 (n : Nat) (hn : 200103 ≤ n) : RNilOk (ev prg n) 52 := by
  obtain ⟨m, rfl⟩ : ∃ m, n = m + 11 := ⟨n - 11, by omega⟩
  have h_within := ok_within (m + 10) (by omega)
  unfold RNilOk
  intros
  refine (ev_eq (f := 52) (fn := p52) rfl (m + 10) _ _).trans ?_
  apply rnil52 (ev prg (m + 10)) h_within <;> first | assumption | omega

theorem ok_rlong (n : Nat) (hn : 200101 ≤ n) : RLongOk (ev prg n) := by
  obtain ⟨m, rfl⟩ : ∃ m, n = m + 11 := ⟨n - 11, by omega⟩
  unfold RLongOk
  intros
  refine (ev_eq (f := 18) (fn := p18) rfl (m + 10) _ _).trans ?_
  apply rlong_run (ev prg (m + 10)) <;> first | assumption | omega

theorem ok_digest (n : Nat) (hn : 200102 ≤ n) : RDigestOk (ev prg n) := by
  obtain ⟨m, rfl⟩ : ∃ m, n = m + 11 := ⟨n - 11, by omega⟩
  have h_rlong := ok_rlong (m + 10) (by omega)
  unfold RDigestOk
  intros
  refine (ev_eq (f := 60) (fn := p60) rfl (m + 10) _ _).trans ?_
  apply digest_run (ev prg (m + 10)) h_rlong <;> first | assumption | omega

theorem ok_rimport (n : Nat) (hn : 200104 ≤ n) : RImportOk (ev prg n) := by
  obtain ⟨m, rfl⟩ : ∃ m, n = m + 11 := ⟨n - 11, by omega⟩
  have h_rtext := ok_rtext (m + 10) (by omega)
  have h_rint := ok_rint (m + 10) (by omega)
  unfold RImportOk
  intros
  refine (ev_eq (f := 124) (fn := p124) rfl (m + 10) _ _).trans ?_
  apply rimport_run (ev prg (m + 10)) h_rtext h_rint <;> first | assumption | omega

theorem ok_ragainst (n : Nat) (hn : 200104 ≤ n) : RAgainstOk (ev prg n) := by
  obtain ⟨m, rfl⟩ : ∃ m, n = m + 11 := ⟨n - 11, by omega⟩
  have h_rtext := ok_rtext (m + 10) (by omega)
  have h_rint := ok_rint (m + 10) (by omega)
  have h_digest := ok_digest (m + 10) (by omega)
  unfold RAgainstOk
  intros
  refine (ev_eq (f := 57) (fn := p57) rfl (m + 10) _ _).trans ?_
  apply ragainst_run (ev prg (m + 10)) h_rtext h_rint h_digest <;> first | assumption | omega

theorem ok_rtexts (n : Nat) (hn : 200104 ≤ n) : RTextsOk (ev prg n) := by
  obtain ⟨m, rfl⟩ : ∃ m, n = m + 11 := ⟨n - 11, by omega⟩
  have h_rnil200 := ok_rnil200 (m + 10) (by omega)
  unfold RTextsOk
  intros
  refine (ev_eq (f := 128) (fn := p128) rfl (m + 10) _ _).trans ?_
  apply rtexts_run (ev prg (m + 10)) h_rnil200 <;> first | assumption | omega

theorem ok_rstruct (n : Nat) (hn : 200105 ≤ n) : RStructOk (ev prg n) := by
  obtain ⟨m, rfl⟩ : ∃ m, n = m + 11 := ⟨n - 11, by omega⟩
  have h_rtext := ok_rtext (m + 10) (by omega)
  have h_rint := ok_rint (m + 10) (by omega)
  have h_rtruth := ok_rtruth (m + 10) (by omega)
  have h_rtexts := ok_rtexts (m + 10) (by omega)
  have h_rnil129 := ok_rnil129 (m + 10) (by omega)
  unfold RStructOk
  intros
  refine (ev_eq (f := 126) (fn := p126) rfl (m + 10) _ _).trans ?_
  apply rstruct_run (ev prg (m + 10)) h_rtext h_rint h_rtruth h_rtexts h_rnil129 <;> first | assumption | omega

theorem ok_rimports (n : Nat) (hn : 200105 ≤ n) : RImportsOk (ev prg n) := by
  obtain ⟨m, rfl⟩ : ∃ m, n = m + 11 := ⟨n - 11, by omega⟩
  have h_within := ok_within (m + 10) (by omega)
  have h_rimport := ok_rimport (m + 10) (by omega)
  intro t ht x h0 h1 r hr app fl X rest
  have l1 := txt_length (t := t) (by omega)
  have l2 := num_length h0 h1
  refine (ev_eq (f := 123) (fn := p123) rfl (m + 10) _ _).trans ?_
  exact rimports_run _ h_within (m + 6) t x (txt t ++ (num x ++ r)) r (by simp [bytes8]; omega) app fl X rest (h_rimport t ht x h0 h1 r (by omega) false (.bool false) fl X rest)

theorem ok_rstructs (n : Nat) (hn : 200106 ≤ n) : RStructsOk (ev prg n) := by
  obtain ⟨m, rfl⟩ : ∃ m, n = m + 11 := ⟨n - 11, by omega⟩
  have h_within := ok_within (m + 10) (by omega)
  have h_rstruct := ok_rstruct (m + 10) (by omega)
  intro t ht x h0 h1 r hr app fl X rest
  have l1 := txt_length (t := t) (by omega)
  have l2 := num_length h0 h1
  refine (ev_eq (f := 125) (fn := p125) rfl (m + 10) _ _).trans ?_
  exact rstructs_run _ h_within (m + 6) t x (num x ++ ([0] ++ ([0] ++ (txt t ++ ([0] ++ ([0] ++ r)))))) r (by simp [bytes8]; omega) app fl X rest (h_rstruct t ht x h0 h1 r (by omega) false (.bool false) fl X rest)

theorem ok_ragainsts (n : Nat) (hn : 200105 ≤ n) : RAgainstsOk (ev prg n) := by
  obtain ⟨m, rfl⟩ : ∃ m, n = m + 11 := ⟨n - 11, by omega⟩
  have h_within := ok_within (m + 10) (by omega)
  have h_ragainst := ok_ragainst (m + 10) (by omega)
  intro t ht x h0 h1 d hd r hr app fl rest
  have l1 := txt_length (t := t) (by omega)
  have l2 := num_length h0 h1
  refine (ev_eq (f := 56) (fn := p56) rfl (m + 10) _ _).trans ?_
  exact ragainsts_run _ h_within (m + 6) t x d (txt t ++ (num x ++ (bytes8 d ++ r))) r (by simp [bytes8]; omega) app fl rest (h_ragainst t ht x h0 h1 d hd r (by omega) false (.bool false) fl rest)

theorem ok_rmodule (n : Nat) (hn : 200107 ≤ n) : RModuleOk (ev prg n) := by
  obtain ⟨m, rfl⟩ : ∃ m, n = m + 11 := ⟨n - 11, by omega⟩
  have h_rtext := ok_rtext (m + 10) (by omega)
  have h_rint := ok_rint (m + 10) (by omega)
  have h_rimports := ok_rimports (m + 10) (by omega)
  have h_rstructs := ok_rstructs (m + 10) (by omega)
  have h_rnil131 := ok_rnil131 (m + 10) (by omega)
  have h_rnil136 := ok_rnil136 (m + 10) (by omega)
  have h_rnil140 := ok_rnil140 (m + 10) (by omega)
  have h_rnil146 := ok_rnil146 (m + 10) (by omega)
  unfold RModuleOk
  intros
  refine (ev_eq (f := 49) (fn := p49) rfl (m + 10) _ _).trans ?_
  apply rmodule_run (ev prg (m + 10)) h_rtext h_rint h_rimports h_rstructs h_rnil131 h_rnil136 h_rnil140 h_rnil146 <;> first | assumption | omega

theorem ok_robject (n : Nat) (hn : 200108 ≤ n) : RObjectOk (ev prg n) := by
  obtain ⟨m, rfl⟩ : ∃ m, n = m + 11 := ⟨n - 11, by omega⟩
  have h_rmodule := ok_rmodule (m + 10) (by omega)
  have h_rnil50 := ok_rnil50 (m + 10) (by omega)
  have h_rnil52 := ok_rnil52 (m + 10) (by omega)
  have h_ragainsts := ok_ragainsts (m + 10) (by omega)
  intro nm t hnm ht r l k a hr0 hr1 hl0 hl1 hk0 hk1 ha0 ha1 d hd app fl
  refine (ev_eq (f := 19) (fn := p19) rfl (m + 10) _ _).trans ?_
  rw [← objB_eq]
  exact robject_run _ h_rmodule h_rnil50 h_rnil52 h_ragainsts _ nm t hnm ht r l k a hr0 hr1 hl0 hl1 hk0 hk1 ha0 ha1 d hd app fl

theorem ok_whole (n : Nat) (hn : 200109 ≤ n) : WholeOk (ev prg n) := by
  obtain ⟨m, rfl⟩ : ∃ m, n = m + 11 := ⟨n - 11, by omega⟩
  have h_object := ok_object (m + 10) (by omega)
  unfold WholeOk
  intros
  refine (ev_eq (f := 20) (fn := p20) rfl (m + 10) _ _).trans ?_
  apply whole_run (ev prg (m + 10)) h_object <;> first | assumption | omega

theorem ok_same (n : Nat) (hn : 200110 ≤ n) : SameOk (ev prg n) := by
  obtain ⟨m, rfl⟩ : ∃ m, n = m + 11 := ⟨n - 11, by omega⟩
  have h_whole := ok_whole (m + 10) (by omega)
  unfold SameOk
  intros
  refine (ev_eq (f := 8) (fn := p8) rfl (m + 10) _ _).trans ?_
  apply same_run (ev prg (m + 10)) h_whole <;> first | assumption | omega

theorem ok_decode (n : Nat) (hn : 200109 ≤ n) : DecOk (ev prg n) := by
  obtain ⟨m, rfl⟩ : ∃ m, n = m + 11 := ⟨n - 11, by omega⟩
  have h_rlong := ok_rlong (m + 10) (by omega)
  have h_sum := ok_sum (m + 10) (by omega)
  have h_robject := ok_robject (m + 10) (by omega)
  have h_valid := ok_valid (m + 10) (by omega)
  unfold DecOk
  intros
  refine (ev_eq (f := 7) (fn := p7) rfl (m + 10) _ _).trans ?_
  apply decode_run (ev prg (m + 10)) h_rlong h_sum h_robject h_valid <;> first | assumption | omega

theorem ok_str41 (n : Nat) (hn : 200102 ≤ n) : StrOk (ev prg n) := by
  obtain ⟨m, rfl⟩ : ∃ m, n = m + 11 := ⟨n - 11, by omega⟩
  have h_num := ok_num (m + 10) (by omega)
  unfold StrOk
  intros
  refine (ev_eq (f := 41) (fn := p41) rfl (m + 10) _ _).trans ?_
  apply str41_run (ev prg (m + 10)) h_num <;> first | assumption | omega

theorem ok_truth42 (n : Nat) (hn : 200102 ≤ n) : Truth42Ok (ev prg n) := by
  obtain ⟨m, rfl⟩ : ∃ m, n = m + 11 := ⟨n - 11, by omega⟩
  have h_num := ok_num (m + 10) (by omega)
  unfold Truth42Ok
  intros
  refine (ev_eq (f := 42) (fn := p42) rfl (m + 10) _ _).trans ?_
  apply truth42_run (ev prg (m + 10)) h_num <;> first | assumption | omega

theorem ok_strs43 (n : Nat) (hn : 200102 ≤ n) : Strs43Ok (ev prg n) := by
  obtain ⟨m, rfl⟩ : ∃ m, n = m + 11 := ⟨n - 11, by omega⟩
  have h_num := ok_num (m + 10) (by omega)
  unfold Strs43Ok
  intros
  refine (ev_eq (f := 43) (fn := p43) rfl (m + 10) _ _).trans ?_
  apply strs43_run (ev prg (m + 10)) h_num <;> first | assumption | omega

theorem ok_long16 (n : Nat) (hn : 200101 ≤ n) : Long16Ok (ev prg n) := by
  obtain ⟨m, rfl⟩ : ∃ m, n = m + 11 := ⟨n - 11, by omega⟩
  unfold Long16Ok
  intros
  refine (ev_eq (f := 16) (fn := p16) rfl (m + 10) _ _).trans ?_
  apply long16_run (ev prg (m + 10)) <;> first | assumption | omega

theorem ok_skel36 (n : Nat) (hn : 200101 ≤ n) : Skel36Ok (ev prg n) := by
  obtain ⟨m, rfl⟩ : ∃ m, n = m + 11 := ⟨n - 11, by omega⟩
  unfold Skel36Ok
  intros
  refine (ev_eq (f := 36) (fn := p36) rfl (m + 10) _ _).trans ?_
  apply skel36_run (ev prg (m + 10)) <;> first | assumption | omega

theorem ok_valid13 (n : Nat) (hn : 200102 ≤ n) : Valid13Ok (ev prg n) := by
  obtain ⟨m, rfl⟩ : ∃ m, n = m + 11 := ⟨n - 11, by omega⟩
  have h_skel36 := ok_skel36 (m + 10) (by omega)
  unfold Valid13Ok
  intros
  refine (ev_eq (f := 13) (fn := p13) rfl (m + 10) _ _).trans ?_
  apply valid13_run (ev prg (m + 10)) h_skel36 <;> first | assumption | omega

theorem ok_module14 (n : Nat) (hn : 200103 ≤ n) : Module14Ok (ev prg n) := by
  obtain ⟨m, rfl⟩ : ∃ m, n = m + 11 := ⟨n - 11, by omega⟩
  have h_num := ok_num (m + 10) (by omega)
  have h_str41 := ok_str41 (m + 10) (by omega)
  have h_truth42 := ok_truth42 (m + 10) (by omega)
  have h_strs43 := ok_strs43 (m + 10) (by omega)
  unfold Module14Ok
  intros
  refine (ev_eq (f := 14) (fn := p14) rfl (m + 10) _ _).trans ?_
  apply module14_run (ev prg (m + 10)) h_num h_str41 h_truth42 h_strs43 <;> first | assumption | omega

theorem ok_rest15 (n : Nat) (hn : 200103 ≤ n) : Rest15Ok (ev prg n) := by
  obtain ⟨m, rfl⟩ : ∃ m, n = m + 11 := ⟨n - 11, by omega⟩
  have h_num := ok_num (m + 10) (by omega)
  have h_str41 := ok_str41 (m + 10) (by omega)
  have h_long16 := ok_long16 (m + 10) (by omega)
  unfold Rest15Ok
  intros
  refine (ev_eq (f := 15) (fn := p15) rfl (m + 10) _ _).trans ?_
  apply rest15_run (ev prg (m + 10)) h_num h_str41 h_long16 <;> first | assumption | omega

theorem ok_encode6 (n : Nat) (hn : 200104 ≤ n) : EncOk 6 (ev prg n) := by
  obtain ⟨m, rfl⟩ : ∃ m, n = m + 11 := ⟨n - 11, by omega⟩
  have h_valid13 := ok_valid13 (m + 10) (by omega)
  have h_module14 := ok_module14 (m + 10) (by omega)
  have h_rest15 := ok_rest15 (m + 10) (by omega)
  have h_sum17 := ok_sum17 (m + 10) (by omega)
  have h_long16 := ok_long16 (m + 10) (by omega)
  unfold EncOk
  intros
  refine (ev_eq (f := 6) (fn := p6) rfl (m + 10) _ _).trans ?_
  apply encode6_run (ev prg (m + 10)) h_valid13 h_module14 h_rest15 h_sum17 h_long16 <;> first | assumption | omega

/-- The law yields 'true' in the evaluator. -/
theorem law_ev (rel line dig : Nat) (hrel : rel < 2 ^ 64) (hline : line < 2 ^ 64) (hdig : dig < 2 ^ 64) (t : List UInt8) (k : Int) (hk0 : -(2 ^ 63) ≤ k) (hk1 : k < 2 ^ 63) :
    ev prg 200201 3 [.int .u64 rel, .int .u64 line, .int .u64 dig, .str t, .int .i64 k] [] = some (.bool true, []) :=
  (ev_eq (f := 3) (fn := p3) rfl 200200 _ _).trans (law_run _ awake_run (ok_encode _ (by omega)) (ok_encode6 _ (by omega)) (ok_decode _ (by omega)) (ok_same _ (by omega)) _ rel line dig hrel hline hdig t k hk0 hk1)


end Go.Proofs.YtflciaomdlgjpaaGreatDoor.VVE.Obj

