/-
  Open orders, code, calls: whatever the small form's evaluator yields, the machine yields.
-/
import Derived.Test.YtflciaomdlgjpaaGreatDoorV3
import Derived.LoopN
import Derived.ChangeSame
set_option linter.unusedVariables false
set_option linter.unusedSimpArgs false
namespace Go.Proofs.YtflciaomdlgjpaaGreatDoor.VVE

def IOp.srcs : IOp → List Src
  | .mv _ x | .box _ x | .load _ _ _ x | .nilck x | .un _ x | .conv _ x | .same x | .b2s x | .s2b x | .faddr _ x | .field _ _ _ x | .extract x _ | .len x | .slen x => [x]
  | .pick c a b => [c, a, b]
  | .alloc .. | .mkmap => []
  | .build _ _ ps => ps.map fun p => p.2.2
  | .bslice _ _ _ ps => ps.map fun p => p.2
  | .store _ x v => [x, v]
  | .bin _ x y | .beq _ x y | .iaddr _ x y | .index x y | .append _ _ x y => [x, y]
  | .mkfn _ a b => a ++ b
  | .mkslice _ _ _ a b => [a, b]
  | .slice _ x a b c => x :: (a.toList ++ b.toList ++ c.toList)
  | .substr x a b => x :: (a.toList ++ b.toList)
  | .calld _ xs => xs
  | .callv f xs => f :: xs

def srcTmps (xs : List Src) : List Nat := xs.filterMap fun | .t t => some t | .c _ => none

def IOp.isCall : IOp → Bool
  | .calld .. | .callv .. => true
  | _ => false

def IOp.isLoad : IOp → Bool
  | .load .. => true
  | _ => false

/-- Takes rights out of memory. -/
def IOp.takes : IOp → Bool
  | .load _ _ take _ => take
  | _ => false

/-- Takes rights, or calls. -/
def IOp.eff : IOp → Bool
  | .mv take _ => take
  | .build take _ _ => take
  | .load _ _ take _ => take
  | .same _ | .append .. | .calld .. | .callv .. => true
  | _ => false

def IOp.simple (op : IOp) : Bool := !op.heavy && !op.eff

def IOper.uses (o : IOper) : List Nat := srcTmps o.op.srcs ++ (match o.guard with | some (t, _) => [t] | none => [])

def clear (d : Option Nat) (ts : List Nat) : Bool := match d with
  | some d => !ts.contains d
  | none => true

/-- 'x' is simple, and may change places with 'y'. -/
def passes (strict : Bool) (x y : IOper) : Bool :=
  x.op.simple && !y.op.heavy && clear x.dst y.uses && clear y.dst x.uses && clear x.dst y.dst.toList &&
    (!y.op.eff || (srcTmps y.op.srcs).all fun t => !x.uses.contains t) && (!(x.op.isLoad && y.op.isCall) || strict) && !(x.op.isLoad && y.op.takes)

def indep (strict : Bool) (x y : IOper) : Bool := passes strict x y || passes strict y x

theorem val_congr {env env' : List V} {x : Src} (h : ∀ t, x = .t t → getT env' t = getT env t) : val env' x = val env x := by
  cases x with
  | c v => rfl
  | t t => simp only [val, h t rfl]

section
variable {s s' : St}

theorem simple_runOp {op : IOp} (hs : op.simple = true) (hv : ∀ x ∈ op.srcs, val s'.env x = val s.env x) (hl : op.isLoad = true → ∀ x ∈ op.srcs, ∀ n, loadAt s' (val s.env x) n = loadAt s (val s.env x) n) :
    runOp s' op = (runOp s op).map fun r => (r.1, s') := by
  cases op <;> simp only [IOp.simple, IOp.heavy, IOp.eff, Bool.not_true, Bool.not_false, Bool.and_true, Bool.and_false, Bool.false_eq_true, Bool.not_eq_true', Bool.and_eq_true] at hs
  case mv take x =>
    obtain ⟨_, rfl⟩ := hs
    have h1 := hv x (by simp [IOp.srcs])
    simp [runOp, h1]
  case pick c a b =>
    have h1 := hv c (by simp [IOp.srcs])
    have h2 := hv a (by simp [IOp.srcs])
    have h3 := hv b (by simp [IOp.srcs])
    simp only [runOp, h1, h2, h3]
    split <;> rfl
  case build take zero ps =>
    obtain ⟨_, rfl⟩ := hs
    have e : (ps.map fun p => (p.1, p.2.1, (val s'.env p.2.2).share)) = ps.map fun p => (p.1, p.2.1, (val s.env p.2.2).share) :=
      List.map_congr_left fun p hp => by rw [hv p.2.2 (List.mem_map.2 ⟨p, hp, rfl⟩)]
    simp only [runOp, Bool.false_eq_true, if_false]
    rw [e]
    cases fillCells zero (ps.map fun p => (p.1, p.2.1, (val s.env p.2.2).share)) <;> rfl
  case bslice sz zero len ps =>
    have e : (ps.map fun p => (p.1, val s'.env p.2)) = ps.map fun p => (p.1, val s.env p.2) :=
      List.map_congr_left fun p hp => by rw [hv p.2 (List.mem_map.2 ⟨p, hp, rfl⟩)]
    simp only [runOp]
    rw [e]
    split
    · cases fillRows sz (List.replicate len (zeroRow zero)) (ps.map fun p => (p.1, val s.env p.2)) <;> rfl
    · rfl
  case load n agg take x =>
    obtain ⟨_, rfl⟩ := hs
    have h1 := hv x (by simp [IOp.srcs])
    have h2 := hl rfl x (by simp [IOp.srcs])
    simp only [runOp, h1, h2, Bool.false_eq_true, if_false]
    cases loadAt s (val s.env x) n with
    | none => rfl
    | some cs => simp only [Option.bind_some]; cases ofCells agg (cs.map V.share1) <;> rfl
  case nilck x =>
    have h1 := hv x (by simp [IOp.srcs])
    simp only [runOp, h1]
    split <;> rfl
  case bin op x y =>
    have h1 := hv x (by simp [IOp.srcs])
    have h2 := hv y (by simp [IOp.srcs])
    simp only [runOp, h1, h2]
    cases vbin op (val s.env x) (val s.env y) <;> rfl
  case beq neg x y =>
    have h1 := hv x (by simp [IOp.srcs])
    have h2 := hv y (by simp [IOp.srcs])
    simp only [runOp, h1, h2]
    cases vbeq neg (val s.env x) (val s.env y) <;> rfl
  case un op x =>
    have h1 := hv x (by simp [IOp.srcs])
    simp only [runOp, h1]
    cases vun op (val s.env x) <;> rfl
  case conv k x =>
    have h1 := hv x (by simp [IOp.srcs])
    simp only [runOp, h1]
    split <;> rfl
  case b2s x =>
    have h1 := hv x (by simp [IOp.srcs])
    simp only [runOp, h1]
    split
    · rename_i rows _
      cases rows.mapM toByte <;> rfl
    · rfl
  case s2b x =>
    have h1 := hv x (by simp [IOp.srcs])
    simp only [runOp, h1]
    split <;> rfl
  case mkfn f a b =>
    have e1 : (a.map fun x => (val s'.env x).share) = a.map fun x => (val s.env x).share := List.map_congr_left fun x hx => by rw [hv x (by simp [IOp.srcs, hx])]
    have e2 : (b.map fun x => (val s'.env x).share) = b.map fun x => (val s.env x).share := List.map_congr_left fun x hx => by rw [hv x (by simp [IOp.srcs, hx])]
    simp only [runOp, e1, e2]
    split <;> rfl
  case mkslice sz bytes zero l c =>
    have h1 := hv l (by simp [IOp.srcs])
    have h2 := hv c (by simp [IOp.srcs])
    simp only [runOp, h1, h2]
    split
    · split <;> rfl
    · rfl
  case slice sz x a b c =>
    have h1 := hv x (by simp [IOp.srcs])
    have e : ∀ q : Option Src, (∀ y, q = some y → val s'.env y = val s.env y) → q.map (val s'.env) = q.map (val s.env) := by
      intro q hq
      cases q with
      | none => rfl
      | some y => simp [hq y rfl]
    have e1 := e a (fun y hy => hv y (by simp [IOp.srcs, hy]))
    have e2 := e b (fun y hy => hv y (by simp [IOp.srcs, hy]))
    have e3 := e c (fun y hy => hv y (by simp [IOp.srcs, hy]))
    simp only [runOp, h1, e1, e2, e3]
    split
    · cases vslice (val s.env x) (a.map (val s.env)) (b.map (val s.env)) (c.map (val s.env)) <;> rfl
    · rfl
  case substr x a b =>
    have h1 := hv x (by simp [IOp.srcs])
    have e : ∀ q : Option Src, (∀ y, q = some y → val s'.env y = val s.env y) → q.map (val s'.env) = q.map (val s.env) := by
      intro q hq
      cases q with
      | none => rfl
      | some y => simp [hq y rfl]
    have e1 := e a (fun y hy => hv y (by simp [IOp.srcs, hy]))
    have e2 := e b (fun y hy => hv y (by simp [IOp.srcs, hy]))
    simp only [runOp, h1, e1, e2]
    cases vsubstr (val s.env x) (a.map (val s.env)) (b.map (val s.env)) <;> rfl
  case faddr off x =>
    have h1 := hv x (by simp [IOp.srcs])
    simp only [runOp, h1]
    cases vfaddr off (val s.env x) <;> rfl
  case iaddr sz x y =>
    have h1 := hv x (by simp [IOp.srcs])
    have h2 := hv y (by simp [IOp.srcs])
    simp only [runOp, h1, h2]
    cases viaddr sz (val s.env x) (val s.env y) <;> rfl
  case field off n agg x =>
    have h1 := hv x (by simp [IOp.srcs])
    simp only [runOp, h1]
    cases vfield off n agg (val s.env x).share <;> rfl
  case index x y =>
    have h1 := hv x (by simp [IOp.srcs])
    have h2 := hv y (by simp [IOp.srcs])
    simp only [runOp, h1, h2]
    cases vindex (val s.env x) (val s.env y) <;> rfl
  case extract x i =>
    have h1 := hv x (by simp [IOp.srcs])
    simp only [runOp, h1]
    split
    · rename_i vs _
      cases vs[i]? <;> rfl
    · rfl
  case len x =>
    have h1 := hv x (by simp [IOp.srcs])
    simp only [runOp, h1]
    cases vlen (val s.env x) <;> rfl
  case slen x =>
    have h1 := hv x (by simp [IOp.srcs])
    simp only [runOp, h1]
    cases vslen (val s.env x) <;> rfl

/-- A temporary that an operation does not see is written ahead of it, or behind it. -/
theorem val_set {env : List V} {d : Nat} {u : V} {x : Src} (h : x ≠ .t d) : val (env.set d u) x = val env x :=
  val_congr fun t ht => by
    rw [getT_set, if_neg]
    rintro ⟨rfl, _⟩
    exact h ht

theorem drain_set {env : List V} {d : Nat} {u : V} {x : Src} (h : x ≠ .t d) : drain (env.set d u) x = (drain env x).set d u := by
  cases x with
  | c v => rfl
  | t t =>
    have hne : t ≠ d := fun e => h (by rw [e])
    have hg : getT (env.set d u) t = getT env t := by
      rw [getT_set, if_neg]
      rintro ⟨rfl, _⟩
      exact hne rfl
    simp only [drain, hg]
    split
    · rfl
    · rw [List.set_comm _ _ hne]

theorem takeAll_set {d : Nat} {u : V} : ∀ (xs : List Src) (env : List V), (∀ x ∈ xs, x ≠ .t d) → takeAll xs (env.set d u) = ((takeAll xs env).1, (takeAll xs env).2.set d u) := by
  intro xs
  induction xs with
  | nil => intro env _; rfl
  | cons x xs ih =>
    intro env h
    have hx := h x (by simp)
    simp only [takeAll]
    rw [val_set hx, drain_set hx, ih _ (fun y hy => h y (by simp [hy]))]

/-- The state with one temporary written. -/
def St.set (s : St) (d : Nat) (u : V) : St := { s with env := s.env.set d u }

theorem callMasked_set {call : Call} {m : List Nat} {f : Nat} {vs : List V} {s : St} {d : Nat} {u : V} :
    callMasked call m f vs (s.set d u) = (callMasked call m f vs s).map fun r => (r.1, r.2.set d u) := by
  unfold callMasked
  split
  · show (call f vs (maskObj m s.heap)).bind _ = _
    cases call f vs (maskObj m s.heap) with
    | none => rfl
    | some r =>
      simp only [Option.bind_some]
      split <;> rfl
  · rfl

theorem loadAt_none {s : St} {t : Nat} (h : isBox (getT s.env t) = false) (off n : Nat) : loadAt s (.lref t off) n = none := by
  simp only [loadAt]
  revert h
  cases getT s.env t <;> intro h <;> first | rfl | cases h

theorem storeAt_none {s : St} {t : Nat} (h : isBox (getT s.env t) = false) (off : Nat) (new : List V) : storeAt s (.lref t off) new = none := by
  simp only [storeAt]
  revert h
  cases getT s.env t <;> intro h <;> first | rfl | cases h

theorem set_nb {s : St} {d : Nat} {u : V} (h1 : isBox u = false) (h2 : isBox (getT s.env d) = false) : isBox (getT (s.set d u).env d) = false := by
  show isBox (getT (s.env.set d u) d) = false
  rw [getT_set]
  split
  · exact h1
  · exact h2

theorem loadAt_set {s : St} {d : Nat} {u : V} (h1 : isBox u = false) (h2 : isBox (getT s.env d) = false) (p : V) (n : Nat) : loadAt (s.set d u) p n = loadAt s p n := by
  cases p <;> try rfl
  case lref t off =>
    by_cases h : d = t
    · subst h
      rw [loadAt_none h2, loadAt_none (set_nb h1 h2)]
    · simp only [loadAt, St.set, getT_set]
      rw [if_neg (fun hh => h hh.1)]

theorem storeAt_set {s : St} {d : Nat} {u : V} (h1 : isBox u = false) (h2 : isBox (getT s.env d) = false) (p : V) (new : List V) : storeAt (s.set d u) p new = (storeAt s p new).map fun r => r.set d u := by
  cases p <;> try rfl
  case lref t off =>
    by_cases h : d = t
    · subst h
      rw [storeAt_none h2, storeAt_none (set_nb h1 h2)]
      rfl
    · simp only [storeAt, St.set, getT_set]
      rw [if_neg (fun hh => h hh.1)]
      split
      · split
        · simp only [Option.map_some, St.set]
          rw [List.set_comm _ _ h]
        · rfl
      · rfl
  case ref i off =>
    simp only [storeAt, St.set]
    split
    · split <;> rfl
    · rfl

theorem fillTake_set {d : Nat} {u : V} : ∀ (ps : List (Nat × Nat × Src)) (cs env : List V), (∀ p ∈ ps, p.2.2 ≠ .t d) → fillTake cs (env.set d u) ps = (fillTake cs env ps).map fun r => (r.1, r.2.set d u)
  | [], _, _, _ => rfl
  | (off, n, x) :: ps, cs, env, h => by
    have hx : x ≠ .t d := h (off, n, x) (by simp)
    simp only [fillTake, val_set hx, drain_set hx]
    split
    · exact fillTake_set ps _ _ (fun p hp => h p (by simp [hp]))
    · rfl

theorem eff_set {call : Call} {m : List Nat} {op : IOp} {s : St} {d : Nat} {u : V} (he : op.eff = true) (hd : ∀ x ∈ op.srcs, x ≠ .t d) (hu : isBox u = false) (hb : isBox (getT s.env d) = false) :
    effOp call m (s.set d u) op = (effOp call m s op).map fun r => (r.1, r.2.set d u) := by
  cases op <;> simp only [IOp.eff, Bool.false_eq_true] at he
  case mv take x =>
    subst he
    have hx := hd x (by simp [IOp.srcs])
    simp [effOp, runOp, St.set, val_set hx, drain_set hx]
  case load n agg take x =>
    subst he
    have hx := hd x (by simp [IOp.srcs])
    have e1 : val (s.set d u).env x = val s.env x := val_set hx
    simp only [effOp, runOp, e1, loadAt_set hu hb, if_true]
    cases loadAt s (val s.env x) n with
    | none => rfl
    | some cs =>
      simp only [Option.bind_some]
      split
      · rfl
      · cases ofCells agg cs with
        | none => rfl
        | some v =>
          simp only [Option.bind_some]
          rw [storeAt_set hu hb]
          cases storeAt s (val s.env x) (cs.map V.share1) <;> rfl
  case build take zero ps =>
    subst he
    have h := fillTake_set (u := u) ps zero s.env (fun p hp => hd p.2.2 (List.mem_map.2 ⟨p, hp, rfl⟩))
    simp only [effOp, runOp, if_true, St.set]
    rw [h]
    cases fillTake zero s.env ps <;> rfl
  case same x =>
    have hx := hd x (by simp [IOp.srcs])
    simp only [effOp, runOp, St.set, val_set hx, drain_set hx]
    split
    · split <;> rfl
    · rfl
  case append sz bytes x y =>
    have hx := hd x (by simp [IOp.srcs])
    have hy := hd y (by simp [IOp.srcs])
    simp only [effOp, runOp, St.set, val_set hx, val_set hy, drain_set hx]
    split
    · split
      · split <;> rfl
      · rfl
    · rfl
  case calld f xs =>
    simp only [effOp]
    have h := takeAll_set (u := u) xs s.env (fun x hx => hd x (by simpa [IOp.srcs] using hx))
    have h1 : (takeAll xs (s.set d u).env).1 = (takeAll xs s.env).1 := by show (takeAll xs (s.env.set d u)).1 = _; rw [h]
    have h2 : (takeAll xs (s.set d u).env).2 = (takeAll xs s.env).2.set d u := by show (takeAll xs (s.env.set d u)).2 = _; rw [h]
    rw [h1, h2]
    exact callMasked_set (s := { s with env := (takeAll xs s.env).2 })
  case callv f xs =>
    have h := takeAll_set (u := u) xs s.env (fun x hx => hd x (by simp [IOp.srcs, hx]))
    have h1 : (takeAll xs (s.set d u).env).1 = (takeAll xs s.env).1 := by show (takeAll xs (s.env.set d u)).1 = _; rw [h]
    have h2 : (takeAll xs (s.set d u).env).2 = (takeAll xs s.env).2.set d u := by show (takeAll xs (s.env.set d u)).2 = _; rw [h]
    have hf : val (s.set d u).env f = val s.env f := val_set (hd f (by simp [IOp.srcs]))
    simp only [effOp, hf]
    split
    · rw [h1, h2]
      exact callMasked_set (s := { s with env := (takeAll xs s.env).2 })
    · rfl

theorem drain_get {env : List V} {x : Src} {t : Nat} (h : x ≠ .t t) : getT (drain env x) t = getT env t := by
  cases x with
  | c v => rfl
  | t t' =>
    simp only [drain]
    split
    · rfl
    · rw [getT_set, if_neg]
      rintro ⟨rfl, _⟩
      exact h rfl

theorem isBox_share (v : V) : isBox v.share = isBox v := by cases v <;> rfl

theorem drain_box {env : List V} {x : Src} (t : Nat) : (∀ cs, getT env t = .box cs → getT (drain env x) t = .box cs) ∧ isBox (getT (drain env x) t) = isBox (getT env t) := by
  cases x with
  | c v => exact ⟨fun _ h => h, rfl⟩
  | t t' =>
    simp only [drain]
    split
    · exact ⟨fun _ h => h, rfl⟩
    · rename_i hnb
      rw [getT_set]
      by_cases h : t' = t ∧ t' < env.length
      · rw [if_pos h]
        obtain ⟨rfl, _⟩ := h
        exact ⟨fun cs hcs => absurd hcs (hnb cs), isBox_share _⟩
      · rw [if_neg h]
        exact ⟨fun _ h => h, rfl⟩

theorem takeAll_get : ∀ (xs : List Src) (env : List V) (t : Nat),
    ((∀ x ∈ xs, x ≠ .t t) → getT (takeAll xs env).2 t = getT env t) ∧ (∀ cs, getT env t = .box cs → getT (takeAll xs env).2 t = .box cs) ∧ isBox (getT (takeAll xs env).2 t) = isBox (getT env t) := by
  intro xs
  induction xs with
  | nil => intro env t; exact ⟨fun _ => rfl, fun _ h => h, rfl⟩
  | cons x xs ih =>
    intro env t
    obtain ⟨h1, h2, h3⟩ := ih (drain env x) t
    obtain ⟨k1, k2⟩ := drain_box (env := env) (x := x) t
    refine ⟨fun h => ?_, fun cs hcs => h2 cs (k1 cs hcs), h3.trans k2⟩
    exact (h1 fun y hy => h y (by simp [hy])).trans (drain_get (h x (by simp)))

theorem loadAt_ref {s s' : St} {i : Nat} (h : s'.heap[i]? = s.heap[i]? ∨ (s.heap[i]? = none ∧ isGone s'.heap[i]? = true)) (off n : Nat) : loadAt s' (.ref i off) n = loadAt s (.ref i off) n := by
  rcases h with h | ⟨h1, h2⟩
  · simp only [loadAt, h]
  · simp only [loadAt, h1]
    cases hq : s'.heap[i]? with
    | none => rfl
    | some o =>
      rw [hq] at h2
      cases o <;> first | rfl | cases h2

theorem fillTake_get : ∀ (ps : List (Nat × Nat × Src)) (cs env : List V) (r : List V × List V), fillTake cs env ps = some r → ∀ t,
    ((∀ p ∈ ps, p.2.2 ≠ .t t) → getT r.2 t = getT env t) ∧ (∀ cs, getT env t = .box cs → getT r.2 t = .box cs) ∧ isBox (getT r.2 t) = isBox (getT env t)
  | [], _, _, _, h, t => by cases h; exact ⟨fun _ => rfl, fun _ h => h, rfl⟩
  | (off, n, x) :: ps, cs, env, r, h, t => by
    simp only [fillTake] at h
    split at h
    · obtain ⟨h1, h2, h3⟩ := fillTake_get ps _ _ r h t
      obtain ⟨k1, k2⟩ := drain_box (env := env) (x := x) t
      exact ⟨fun hp => (h1 fun p hp' => hp p (by simp [hp'])).trans (drain_get (hp (off, n, x) (by simp))), fun cs hcs => h2 cs (k1 cs hcs), h3.trans k2⟩
    · cases h

theorem callMasked_spec {call : Call} {m : List Nat} {f : Nat} {vs : List V} {s s1 : St} {v : V} (h : callMasked call m f vs s = some (v, s1)) :
    s1.env = s.env ∧ ∀ i off n, m.contains i = true → loadAt s1 (.ref i off) n = loadAt s (.ref i off) n := by
  unfold callMasked at h
  split at h
  · obtain ⟨⟨v1, h1⟩, hcall, h⟩ := Option.bind_eq_some_iff.1 h
    dsimp only at h
    split at h
    · rename_i hg
      simp only [Bool.and_eq_true] at hg
      cases h
      refine ⟨rfl, fun i off n hi => loadAt_ref ?_ off n⟩
      have hgi : isGone h1[i]? = true := List.all_eq_true.1 hg.1 i (by simpa using hi)
      have hlt : i < h1.length := by
        rcases Nat.lt_or_ge i h1.length with h | h
        · exact h
        · rw [List.getElem?_eq_none h] at hgi; cases hgi
      show (unmask m s.heap h1)[i]? = _ ∨ (_ ∧ isGone (unmask m s.heap h1)[i]? = true)
      rw [unmask_get _ _ _ _ hlt]
      by_cases hl : i < s.heap.length
      · rw [if_pos ⟨hi, hl⟩]
        exact .inl rfl
      · rw [if_neg (fun h => hl h.2)]
        exact .inr ⟨List.getElem?_eq_none (by omega), hgi⟩
    · cases h
  · cases h

/-- What an operation with an effect leaves alone. -/
theorem eff_spec {call : Call} {m : List Nat} {op : IOp} {s s1 : St} {v : V} (he : op.eff = true) (h : effOp call m s op = some (v, s1)) :
    (op.takes = false → ∀ t, (∀ x ∈ op.srcs, x ≠ .t t) → getT s1.env t = getT s.env t) ∧ (op.takes = false → ∀ t cs, getT s.env t = .box cs → getT s1.env t = .box cs) ∧ (∀ t, isBox (getT s1.env t) = isBox (getT s.env t)) ∧
      (op.takes = false → op.isCall = false → s1.heap = s.heap) ∧ (op.takes = false → ∀ i off n, m.contains i = true → loadAt s1 (.ref i off) n = loadAt s (.ref i off) n) ∧
      (∀ t, (∀ x ∈ op.srcs, x ≠ .t t) → getT s1.env t = getT s.env t ∨ (isBox (getT s1.env t) = true ∧ isBox (getT s.env t) = true)) := by
  by_cases htk : op.takes = true
  · cases op <;> simp only [IOp.takes, Bool.false_eq_true] at htk
    rename_i n agg take x
    subst htk
    simp only [effOp, runOp, if_true] at h
    obtain ⟨cs, hcs, h⟩ := Option.bind_eq_some_iff.1 h
    have key : ∀ t, (getT s1.env t = getT s.env t ∨ (isBox (getT s1.env t) = true ∧ isBox (getT s.env t) = true)) := by
      split at h
      · cases h
      · obtain ⟨v', hv, h⟩ := Option.bind_eq_some_iff.1 h
        obtain ⟨s', hs', h⟩ := Option.map_eq_some_iff.1 h
        cases h
        intro t
        unfold storeAt at hs'
        split at hs'
        · rename_i t' off hp
          split at hs'
          · rename_i cs' hb
            split at hs'
            · cases hs'
              by_cases ht : t' = t
              · subst ht
                right
                have hl : t' < s.env.length := by
                  rcases Nat.lt_or_ge t' s.env.length with h | h
                  · exact h
                  · rw [getT_ge (by omega)] at hb; cases hb
                refine ⟨?_, by rw [hb]; rfl⟩
                show isBox (getT (s.env.set t' _) t') = true
                rw [getT_set, if_pos ⟨rfl, hl⟩]
                rfl
              · left
                show getT (s.env.set t' _) t = _
                rw [getT_set, if_neg (fun h => ht h.1)]
            · cases hs'
          · cases hs'
        · split at hs'
          · split at hs'
            · cases hs'
              exact .inl rfl
            · cases hs'
          · cases hs'
        · cases hs'
    refine ⟨fun h => by simp [IOp.takes] at h, fun h => by simp [IOp.takes] at h, fun t => ?_, fun h => by simp [IOp.takes] at h, fun h => by simp [IOp.takes] at h, fun t _ => key t⟩
    rcases key t with h | ⟨h1, h2⟩
    · rw [h]
    · rw [h1, h2]
  have hq : (∀ t, (∀ x ∈ op.srcs, x ≠ .t t) → getT s1.env t = getT s.env t) ∧ (∀ t cs, getT s.env t = .box cs → getT s1.env t = .box cs) ∧ (∀ t, isBox (getT s1.env t) = isBox (getT s.env t)) ∧
      (op.isCall = false → s1.heap = s.heap) ∧ ∀ i off n, m.contains i = true → loadAt s1 (.ref i off) n = loadAt s (.ref i off) n := by
    cases op <;> simp only [IOp.eff, Bool.false_eq_true] at he
    case load n agg take x =>
      subst he
      exact absurd rfl htk
    case mv take x =>
      subst he
      simp only [effOp, runOp, if_true] at h
      cases h
      exact ⟨fun t ht => drain_get (ht x (by simp [IOp.srcs])), fun t => (drain_box t).1, fun t => (drain_box t).2, fun _ => rfl, fun _ _ _ _ => rfl⟩
    case build take zero ps =>
      subst he
      simp only [effOp, runOp, if_true] at h
      obtain ⟨r, hr, h⟩ := Option.map_eq_some_iff.1 h
      cases h
      have hg := fillTake_get ps zero s.env r hr
      exact ⟨fun t ht => (hg t).1 fun p hp => ht p.2.2 (List.mem_map.2 ⟨p, hp, rfl⟩), fun t => (hg t).2.1, fun t => (hg t).2.2, fun _ => rfl, fun _ _ _ _ => rfl⟩
    case same x =>
      simp only [effOp, runOp] at h
      split at h
      · split at h
        · cases h
        · cases h
          exact ⟨fun t ht => drain_get (ht x (by simp [IOp.srcs])), fun t => (drain_box t).1, fun t => (drain_box t).2, fun _ => rfl, fun _ _ _ _ => rfl⟩
      · cases h
    case append sz bytes x y =>
      simp only [effOp, runOp] at h
      split at h
      · split at h
        · cases h
          exact ⟨fun t ht => drain_get (ht x (by simp [IOp.srcs])), fun t => (drain_box t).1, fun t => (drain_box t).2, fun _ => rfl, fun _ _ _ _ => rfl⟩
        · cases h
      · cases h
    case calld f xs =>
      simp only [effOp] at h
      obtain ⟨h1, h2⟩ := callMasked_spec h
      have ht := fun t => takeAll_get xs s.env t
      refine ⟨fun t hx => ?_, fun t cs hcs => ?_, fun t => ?_, fun hc => by simp [IOp.isCall] at hc, h2⟩
      · rw [h1]; exact (ht t).1 (fun x hx' => hx x (by simpa [IOp.srcs] using hx'))
      · rw [h1]; exact (ht t).2.1 cs hcs
      · rw [h1]; exact (ht t).2.2
    case callv f xs =>
      simp only [effOp] at h
      split at h
      · obtain ⟨h1, h2⟩ := callMasked_spec h
        have ht := fun t => takeAll_get xs s.env t
        refine ⟨fun t hx => ?_, fun t cs hcs => ?_, fun t => ?_, fun hc => by simp [IOp.isCall] at hc, h2⟩
        · rw [h1]; exact (ht t).1 (fun x hx' => hx x (by simp [IOp.srcs, hx']))
        · rw [h1]; exact (ht t).2.1 cs hcs
        · rw [h1]; exact (ht t).2.2
      · cases h
  exact ⟨fun _ => hq.1, fun _ => hq.2.1, hq.2.2.1, fun _ => hq.2.2.2.1, fun _ => hq.2.2.2.2, fun t ht => .inl (hq.1 t ht)⟩

end

/- STEPS -/

/-- What a simple operation yields. -/
def pv (s : St) (o : IOper) : Option V :=
  match guardOf s.env o.guard with
  | some true => (runOp s o.op).map (·.1)
  | some false => some .undef
  | none => none

def St.put (s : St) (d : Option Nat) (u : V) : St := { s with env := VVE.put s.env d u }

theorem simple_state {s s1 : St} {op : IOp} {v : V} (hs : op.simple = true) (h : runOp s op = some (v, s1)) : s1 = s := by
  have h1 := simple_runOp (s := s) (s' := s) hs (fun _ _ => rfl) (fun _ _ _ _ => rfl)
  rw [h] at h1
  simp only [Option.map_some, Option.some.injEq, Prod.mk.injEq, true_and] at h1
  exact h1

theorem simple_eff {call : Call} {m : List Nat} {s : St} {op : IOp} (hs : op.simple = true) : effOp call m s op = runOp s op := by
  cases op <;> first
    | rfl
    | simp [IOp.simple, IOp.eff] at hs

section
variable {call : Call} {m : List Nat} {strict : Bool} {s s1 : St} {x y : IOper}

def pass (m : List Nat) (strict : Bool) (s : St) (o : IOper) : Bool := dstOk s.env o.dst && safeLoad m strict s.env o.op

theorem simple_heavy {op : IOp} (hs : op.simple = true) : op.heavy = false ∧ op.eff = false := by
  simpa [IOp.simple] using hs

theorem stepD_simple (hs : x.op.simple = true) : stepD call m strict s x = if pass m strict s x then (pv s x).bind (fun v => if isBox v then none else some (s.put x.dst v)) else none := by
  unfold stepD pass pv
  rw [if_neg (by simp [(simple_heavy hs).1])]
  split
  · cases guardOf s.env x.guard with
    | none => rfl
    | some b =>
      cases b with
      | false => rfl
      | true =>
        dsimp only
        rw [simple_eff hs]
        cases h : runOp s x.op with
        | none => rfl
        | some r =>
          obtain ⟨v, s1⟩ := r
          have := simple_state hs h
          subst this
          rfl
  · rfl

end
end Go.Proofs.YtflciaomdlgjpaaGreatDoor.VVE

namespace Go.Proofs.YtflciaomdlgjpaaGreatDoor.VVE

theorem mem_srcTmps {xs : List Src} {t : Nat} : t ∈ srcTmps xs ↔ Src.t t ∈ xs := by
  unfold srcTmps
  rw [List.mem_filterMap]
  constructor
  · rintro ⟨x, hx, h⟩
    cases x with
    | t t' => cases h; exact hx
    | c v => cases h
  · intro h
    exact ⟨.t t, h, rfl⟩

theorem not_uses {o : IOper} {d : Nat} (h : clear (some d) o.uses = true) : (∀ x ∈ o.op.srcs, x ≠ .t d) ∧ ∀ t b, o.guard = some (t, b) → t ≠ d := by
  have h' : d ∉ o.uses := by simpa [clear] using h
  unfold IOper.uses at h'
  rw [List.mem_append] at h'
  refine ⟨fun x hx e => h' (.inl (mem_srcTmps.2 (e ▸ hx))), fun t b hg e => h' (.inr ?_)⟩
  rw [hg]
  simp [e]

theorem guardOf_congr {env env' : List V} {q : Option (Nat × Bool)} (h : ∀ t b, q = some (t, b) → getT env' t = getT env t) : guardOf env' q = guardOf env q := by
  cases q with
  | none => rfl
  | some p =>
    obtain ⟨t, b⟩ := p
    simp only [guardOf, h t b rfl]

theorem getT_put (env : List V) (dst : Option Nat) (v : V) (t : Nat) : getT (put env dst v) t = if dst = some t ∧ t < env.length then v else getT env t := by
  cases dst with
  | none => simp [put]
  | some d =>
    simp only [put, getT_set]
    by_cases h : d = t
    · subst h; simp
    · simp [h]

section
variable {call : Call} {m : List Nat} {strict : Bool} {s s1 : St} {x y : IOper}

theorem put_set {d : Nat} {u v : V} {dst : Option Nat} (h : dst ≠ some d) : (s.set d u).put dst v = (s.put dst v).set d u := by
  cases dst with
  | none => rfl
  | some e =>
    have hne : d ≠ e := fun h' => h (by rw [h'])
    simp only [St.put, St.set, VVE.put]
    rw [List.set_comm _ _ hne]

/-- A step does not see a temporary that it does not name. -/
theorem stepD_put {d : Option Nat} {u : V} (hh : y.op.heavy = false) (h1 : clear d y.uses = true) (h2 : clear d y.dst.toList = true) (hu : isBox u = false) (hd : dstOk s.env d = true) :
    stepD call m strict (s.put d u) y = (stepD call m strict s y).map (·.put d u) := by
  cases d with
  | none =>
    have e : ∀ s : St, s.put none u = s := fun _ => rfl
    rw [e]
    have : (fun s : St => s.put none u) = id := funext e
    rw [this, Option.map_id]
    rfl
  | some d =>
    obtain ⟨k1, k2⟩ := not_uses h1
    have k3 : y.dst ≠ some d := by
      intro h
      rw [h] at h2
      simp [clear] at h2
    have k4 : isBox (getT s.env d) = false := by simpa [dstOk] using hd
    have e0 : s.put (some d) u = s.set d u := rfl
    have e1 : (fun s : St => s.put (some d) u) = fun s => s.set d u := rfl
    rw [e0, e1]
    have e2 : guardOf (s.set d u).env y.guard = guardOf s.env y.guard := guardOf_congr fun t b hg => by
      show getT (s.env.set d u) t = _
      rw [getT_set, if_neg]
      rintro ⟨rfl, _⟩
      exact k2 _ b hg rfl
    have e3 : dstOk (s.set d u).env y.dst = dstOk s.env y.dst := by
      cases hy : y.dst with
      | none => rfl
      | some e =>
        have hne : d ≠ e := fun h => k3 (by rw [hy, h])
        simp only [dstOk, St.set, getT_set]
        rw [if_neg (fun h => hne h.1)]
    have e4 : safeLoad m strict (s.set d u).env y.op = safeLoad m strict s.env y.op := by
      cases hy : y.op <;> try rfl
      rename_i n agg take z
      have hz : z ≠ .t d := k1 z (by rw [hy]; simp [IOp.srcs])
      show (!strict || safeAddr m (val (s.env.set d u) z)) = _
      rw [val_set hz]
      rfl
    have e5 : effOp call m (s.set d u) y.op = (effOp call m s y.op).map fun r => (r.1, r.2.set d u) := by
      cases he : y.op.eff with
      | true => exact eff_set he k1 hu k4
      | false =>
        have hs : y.op.simple = true := by simp [IOp.simple, hh, he]
        rw [simple_eff hs, simple_eff hs, simple_runOp (s := s) (s' := s.set d u) hs (fun z hz => val_set (k1 z hz)) (fun _ z _ n => loadAt_set hu k4 _ n)]
        cases hr : runOp s y.op with
        | none => rfl
        | some r =>
          obtain ⟨v, s1⟩ := r
          have := simple_state hs hr
          subst this
          rfl
    unfold stepD
    simp only [hh, Bool.false_eq_true, if_false]
    rw [e2, e3, e4, e5]
    split
    · cases guardOf s.env y.guard with
      | none => rfl
      | some b =>
        cases b with
        | false => exact congrArg some (put_set (s := s) k3)
        | true =>
          dsimp only
          cases effOp call m s y.op with
          | none => rfl
          | some r =>
            simp only [Option.map_some, Option.bind_some]
            split
            · rfl
            · exact congrArg some (put_set (s := r.2) k3)
    · rfl

def Left (m : List Nat) (op : IOp) (s s1 : St) (seen : Nat → Prop) : Prop :=
  (∀ t, ¬ seen t → getT s1.env t = getT s.env t ∨ (isBox (getT s1.env t) = true ∧ isBox (getT s.env t) = true)) ∧ (op.takes = false → ∀ t cs, getT s.env t = .box cs → getT s1.env t = .box cs) ∧
    (∀ t, isBox (getT s1.env t) = isBox (getT s.env t)) ∧ (op.takes = false → op.isCall = false → s1.heap = s.heap) ∧
    (op.takes = false → ∀ i off n, m.contains i = true → loadAt s1 (.ref i off) n = loadAt s (.ref i off) n)

/-- What a step leaves alone. -/
theorem stepD_spec (hh : y.op.heavy = false) (h : stepD call m strict s y = some s1) : Left m y.op s s1 fun t => (y.op.eff = true ∧ Src.t t ∈ y.op.srcs) ∨ y.dst = some t := by
  unfold stepD at h
  rw [if_neg (by simp [hh])] at h
  split at h
  · rename_i hp
    simp only [Bool.and_eq_true] at hp
    have hd : ∀ t, y.dst = some t → isBox (getT s.env t) = false := by
      intro t ht
      have := hp.1
      rw [ht] at this
      simpa [dstOk] using this
    cases hg : guardOf s.env y.guard with
    | none => rw [hg] at h; cases h
    | some b =>
      rw [hg] at h
      have key : ∀ (s2 : St) (v : V), isBox v = false → s1 = { s2 with env := put s2.env y.dst v } → Left m y.op s s2 (fun t => y.op.eff = true ∧ Src.t t ∈ y.op.srcs) →
          Left m y.op s s1 fun t => (y.op.eff = true ∧ Src.t t ∈ y.op.srcs) ∨ y.dst = some t := by
        rintro s2 v hv rfl ⟨a1, a2, a3, a4, a5⟩
        refine ⟨fun t ht => ?_, fun hk t cs hcs => ?_, fun t => ?_, a4, a5⟩
        · show getT (put s2.env y.dst v) t = _ ∨ (isBox (getT (put s2.env y.dst v) t) = _ ∧ _)
          rw [getT_put, if_neg (fun h => ht (.inr h.1))]
          exact a1 t (fun h => ht (.inl h))
        · show getT (put s2.env y.dst v) t = _
          rw [getT_put, if_neg]
          · exact a2 hk t cs hcs
          · rintro ⟨h1, _⟩
            have := hd t h1
            rw [hcs] at this
            cases this
        · show isBox (getT (put s2.env y.dst v) t) = _
          rw [getT_put]
          split
          · rename_i h1
            rw [hv, hd t h1.1]
          · exact a3 t
      cases b with
      | false =>
        cases h
        exact key s .undef rfl rfl ⟨fun _ _ => .inl rfl, fun _ _ _ h => h, fun _ => rfl, fun _ _ => rfl, fun _ _ _ _ _ => rfl⟩
      | true =>
        obtain ⟨⟨v, s2⟩, he, h⟩ := Option.bind_eq_some_iff.1 h
        dsimp only at h
        split at h
        · cases h
        · rename_i hv
          cases h
          refine key s2 v (by simpa using hv) rfl ?_
          cases hef : y.op.eff with
          | true =>
            obtain ⟨b1, b2, b3, b4, b5, b6⟩ := eff_spec hef he
            exact ⟨fun t ht => b6 t fun x hx e => ht ⟨rfl, e ▸ hx⟩, b2, b3, b4, b5⟩
          | false =>
            have hs : y.op.simple = true := by simp [IOp.simple, hh, hef]
            rw [simple_eff hs] at he
            have := simple_state hs he
            subst this
            exact ⟨fun _ _ => .inl rfl, fun _ _ _ h => h, fun _ => rfl, fun _ _ => rfl, fun _ _ _ _ _ => rfl⟩
  · cases h

theorem val_same {env env' : List V} {x : Src} (h : ∀ t, x = .t t → getT env' t = getT env t ∨ (isBox (getT env' t) = true ∧ isBox (getT env t) = true)) : val env' x = val env x := by
  cases x with
  | c v => rfl
  | t t =>
    rcases h t rfl with h | ⟨h1, h2⟩
    · simp only [val, h]
    · have k : ∀ v : V, isBox v = true → ∃ cs, v = .box cs := by
        intro v hv
        cases v <;> first
          | exact ⟨_, rfl⟩
          | cases hv
      obtain ⟨c1, e1⟩ := k _ h1
      obtain ⟨c2, e2⟩ := k _ h2
      simp only [val, e1, e2]

theorem guardOf_same {env env' : List V} {q : Option (Nat × Bool)} (h : ∀ t b, q = some (t, b) → getT env' t = getT env t ∨ (isBox (getT env' t) = true ∧ isBox (getT env t) = true)) : guardOf env' q = guardOf env q := by
  cases q with
  | none => rfl
  | some p =>
    obtain ⟨t, b⟩ := p
    rcases h t b rfl with h | ⟨h1, h2⟩
    · simp only [guardOf, h]
    · have k : ∀ v : V, isBox v = true → ∃ cs, v = .box cs := by
        intro v hv
        cases v <;> first
          | exact ⟨_, rfl⟩
          | cases hv
      obtain ⟨c1, e1⟩ := k _ h1
      obtain ⟨c2, e2⟩ := k _ h2
      simp only [guardOf, e1, e2]

/-- What a simple step yields does not hang on a step that it may pass. -/
theorem pv_step (hp : passes strict x y = true) (h : stepD call m strict s y = some s1) :
    pass m strict s1 x = pass m strict s x ∧ (pass m strict s x = true → pv s1 x = pv s x) := by
  simp only [passes, Bool.and_eq_true, Bool.not_eq_true'] at hp
  obtain ⟨⟨⟨⟨⟨⟨⟨h1, h2⟩, h3⟩, h4⟩, h5⟩, h6⟩, h7⟩, h8⟩ := hp
  obtain ⟨a1, a2, a3, a4, a5⟩ := stepD_spec h2 h
  have get : ∀ t, (Src.t t ∈ x.op.srcs ∨ ∃ b, x.guard = some (t, b)) → getT s1.env t = getT s.env t ∨ (isBox (getT s1.env t) = true ∧ isBox (getT s.env t) = true) := by
    intro t ht
    have hu : t ∈ x.uses := by
      unfold IOper.uses
      rw [List.mem_append]
      rcases ht with ht | ⟨b, hb⟩
      · exact .inl (mem_srcTmps.2 ht)
      · right; rw [hb]; simp
    refine a1 t ?_
    rintro (⟨he, hm⟩ | hd)
    · simp only [Bool.or_eq_true, Bool.not_eq_true', he, List.all_eq_true] at h6
      have := h6.resolve_left (by simp) t (mem_srcTmps.2 hm)
      simp [hu] at this
    · rw [hd] at h4
      simp [clear, hu] at h4
  have hval : ∀ z ∈ x.op.srcs, val s1.env z = val s.env z := fun z hz => val_same fun t ht => get t (.inl (ht ▸ hz))
  have hguard : guardOf s1.env x.guard = guardOf s.env x.guard := guardOf_same fun t b hb => get t (.inr ⟨b, hb⟩)
  refine ⟨?_, fun hps => ?_⟩
  · unfold pass
    congr 1
    · cases hx : x.dst with
      | none => rfl
      | some d => simp only [dstOk, a3]
    · cases hx : x.op <;> try rfl
      rename_i n agg take z
      simp only [safeLoad]
      rw [hval z (by rw [hx]; simp [IOp.srcs])]
  · unfold pv
    rw [hguard, simple_runOp (s := s) (s' := s1) h1 hval]
    · cases guardOf s.env x.guard with
      | none => rfl
      | some b =>
        cases b with
        | false => rfl
        | true => simp only [Option.map_map]; rfl
    · intro hl z hz n
      have hk : y.op.takes = false := by simpa [hl] using h8
      cases hx : x.op with
      | load n' agg take z' =>
        rw [hx] at hz
        simp only [IOp.srcs, List.mem_singleton] at hz
        subst hz
        cases hv : val s.env z <;> try rfl
        case lref t off =>
          simp only [loadAt]
          by_cases hb : ∃ cs, getT s.env t = .box cs
          · obtain ⟨cs, hb⟩ := hb
            rw [hb, a2 hk t cs hb]
          · have k2 : isBox (getT s.env t) = false := by
              cases hq : getT s.env t <;> first | rfl | exact absurd ⟨_, hq⟩ hb
            have e1 := loadAt_none k2 off n
            have e2 := loadAt_none (s := s1) ((a3 t).trans k2) off n
            simp only [loadAt] at e1 e2
            rw [e1, e2]
        case ref i off =>
          cases hc : y.op.isCall with
          | false => simp only [loadAt, a4 hk hc]
          | true =>
            have hst : strict = true := by
              rw [hl, hc] at h7
              simpa using h7
            have : safeLoad m strict s.env x.op = true := by
              simp only [pass, Bool.and_eq_true] at hps
              exact hps.2
            rw [hx] at this
            simp only [safeLoad, hst, hv, safeAddr, Bool.not_true, Bool.false_or] at this
            exact a5 hk i off n this
      | _ => rw [hx] at hl; cases hl

theorem passes_spec (hp : passes strict x y = true) : x.op.simple = true ∧ y.op.heavy = false ∧ clear x.dst y.uses = true ∧ clear x.dst y.dst.toList = true := by
  simp only [passes, Bool.and_eq_true, Bool.not_eq_true'] at hp
  obtain ⟨⟨⟨⟨⟨⟨⟨h1, h2⟩, h3⟩, h4⟩, h5⟩, h6⟩, h7⟩, h8⟩ := hp
  exact ⟨h1, h2, h3, h5⟩

theorem simple_some (hs : x.op.simple = true) (h : stepD call m strict s x = some s1) : pass m strict s x = true ∧ ∃ v, pv s x = some v ∧ isBox v = false ∧ s1 = s.put x.dst v := by
  rw [stepD_simple hs] at h
  split at h
  · rename_i hp
    obtain ⟨v, hv, h⟩ := Option.bind_eq_some_iff.1 h
    split at h
    · cases h
    · rename_i hb
      cases h
      exact ⟨hp, v, hv, by simpa using hb, rfl⟩
  · cases h

theorem simple_does (hs : x.op.simple = true) (hp : pass m strict s x = true) {v : V} (hv : pv s x = some v) (hb : isBox v = false) : stepD call m strict s x = some (s.put x.dst v) := by
  rw [stepD_simple hs, if_pos hp, hv]
  simp [hb]

theorem pass_dst (hp : pass m strict s x = true) : dstOk s.env x.dst = true := by
  simp only [pass, Bool.and_eq_true] at hp
  exact hp.1

theorem swap_after (hp : passes strict x y = true) {s2 : St} (h1 : stepD call m strict s x = some s1) (h2 : stepD call m strict s1 y = some s2) :
    ∃ s1', stepD call m strict s y = some s1' ∧ stepD call m strict s1' x = some s2 := by
  obtain ⟨k1, k2, k3, k4⟩ := passes_spec hp
  obtain ⟨hps, v, hv, hb, rfl⟩ := simple_some k1 h1
  rw [stepD_put k2 k3 k4 hb (pass_dst hps)] at h2
  obtain ⟨s1', h3, rfl⟩ := Option.map_eq_some_iff.1 h2
  obtain ⟨e1, e2⟩ := pv_step hp h3
  exact ⟨s1', h3, simple_does k1 (e1.trans hps) ((e2 hps).trans hv) hb⟩

theorem swap_before (hp : passes strict x y = true) {s2 : St} (h1 : stepD call m strict s y = some s1) (h2 : stepD call m strict s1 x = some s2) :
    ∃ s1', stepD call m strict s x = some s1' ∧ stepD call m strict s1' y = some s2 := by
  obtain ⟨k1, k2, k3, k4⟩ := passes_spec hp
  obtain ⟨hps, v, hv, hb, rfl⟩ := simple_some k1 h2
  obtain ⟨e1, e2⟩ := pv_step hp h1
  rw [e1] at hps
  rw [e2 hps] at hv
  refine ⟨_, simple_does k1 hps hv hb, ?_⟩
  rw [stepD_put k2 k3 k4 hb (pass_dst hps), h1]
  rfl

theorem swap (hp : indep strict x y = true) {s2 : St} (h1 : stepD call m strict s x = some s1) (h2 : stepD call m strict s1 y = some s2) :
    ∃ s1', stepD call m strict s y = some s1' ∧ stepD call m strict s1' x = some s2 := by
  simp only [indep, Bool.or_eq_true] at hp
  rcases hp with hp | hp
  · exact swap_after hp h1 h2
  · exact swap_before hp h1 h2

theorem runOps_append {step : St → IOper → Option St} : ∀ (l l' : List IOper) (s : St), runOps step (l ++ l') s = (runOps step l s).bind (runOps step l')
  | [], _, _ => rfl
  | o :: l, l', s => by
    simp only [List.cons_append, runOps]
    cases step s o with
    | none => rfl
    | some s1 => exact runOps_append l l' s1

theorem front : ∀ (pre post : List IOper) (s s2 : St), (∀ z ∈ pre, indep strict z y = true) → runOps (stepD call m strict) (pre ++ y :: post) s = some s2 →
    ∃ s1, stepD call m strict s y = some s1 ∧ runOps (stepD call m strict) (pre ++ post) s1 = some s2 := by
  intro pre
  induction pre with
  | nil =>
    intro post s s2 _ h
    obtain ⟨s1, h1, h2⟩ := Option.bind_eq_some_iff.1 h
    exact ⟨s1, h1, h2⟩
  | cons z pre ih =>
    intro post s s2 hz h
    obtain ⟨sz, h1, h2⟩ := Option.bind_eq_some_iff.1 h
    obtain ⟨s1, h3, h4⟩ := ih post sz s2 (fun q hq => hz q (by simp [hq])) h2
    obtain ⟨s1', h5, h6⟩ := swap (hz z (by simp)) h1 h3
    refine ⟨s1', h5, ?_⟩
    simp only [List.cons_append, runOps, h6]
    exact h4

theorem stepD_stepOp (h : stepD call m strict s x = some s1) : stepOp call m s x = some s1 := by
  unfold stepD at h
  split at h
  · exact h
  · split at h
    · unfold stepOp
      cases hg : guardOf s.env x.guard with
      | none => rw [hg] at h; cases h
      | some b =>
        rw [hg] at h
        cases b with
        | false => exact h
        | true =>
          obtain ⟨⟨v, s2⟩, he, h⟩ := Option.bind_eq_some_iff.1 h
          dsimp only at h ⊢
          split at h
          · cases h
          · rename_i hb
            cases h
            rw [he]
            have : write s2.env x.dst v = put s2.env x.dst v := by
              cases v <;> first
                | rfl
                | (exfalso; exact hb rfl)
            simp only [Option.map_some, this]
    · cases h

end
end Go.Proofs.YtflciaomdlgjpaaGreatDoor.VVE

namespace Go.Proofs.YtflciaomdlgjpaaGreatDoor.VVE

def chkOps (P : Program) (ops : Array Oper) (iops : List IOper) : Bool :=
  iops.length == ops.size && (List.range ops.size).all fun i => match iops[i]?, ops[i]? with
    | some o, some o' => chkOper P ops o o'
    | _, _ => false

def chkOrder (strict : Bool) (order : List Nat) (ops : Array Oper) (iops : List IOper) : Bool :=
  (List.range ops.size).all fun i => match ops[i]?, iops[i]? with
    | some o', some x => o'.after.all (fun e => !Region.binds .any e || decide (e.on < i)) &&
        (List.range i).all fun j => if (order.getD i 0).testBit j then o'.after.any (fun e => Region.binds .any e && (e.on == j || (decide (j < e.on) && (order.getD e.on 0).testBit j)))
          else match iops[j]? with | some y => indep strict y x | none => true
    | _, _ => false

theorem chkOps_spec {P : Program} {ops : Array Oper} {iops : List IOper} (h : chkOps P ops iops = true) :
    iops.length = ops.size ∧ ∀ i, i < ops.size → ∃ o o', iops[i]? = some o ∧ ops[i]? = some o' ∧ chkOper P ops o o' = true := by
  simp only [chkOps, Bool.and_eq_true, beq_iff_eq, List.all_eq_true, List.mem_range] at h
  refine ⟨h.1, fun i hi => ?_⟩
  have := h.2 i hi
  split at this
  · rename_i o o' h1 h2
    exact ⟨o, o', h1, h2, this⟩
  · cases this

theorem chkOrder_spec {strict : Bool} {order : List Nat} {ops : Array Oper} {iops : List IOper} (h : chkOrder strict order ops iops = true) {i : Nat} (hi : i < ops.size) {x : IOper} {o' : Oper} (hx : iops[i]? = some x) (ho : ops[i]? = some o') :
    (∀ e ∈ o'.after, Region.binds .any e = true → e.on < i) ∧ ∀ j, j < i →
      ((order.getD i 0).testBit j = true → ∃ e ∈ o'.after, Region.binds .any e = true ∧ (e.on = j ∨ (j < e.on ∧ (order.getD e.on 0).testBit j = true))) ∧
      ((order.getD i 0).testBit j = false → ∀ y, iops[j]? = some y → indep strict y x = true) := by
  simp only [chkOrder, List.all_eq_true, List.mem_range] at h
  have h1 := h i hi
  rw [hx, ho] at h1
  simp only [Bool.and_eq_true, Array.all_eq_true_iff_forall_mem, Bool.or_eq_true, Bool.not_eq_true', decide_eq_true_eq, List.all_eq_true, List.mem_range] at h1
  refine ⟨fun e he hb => (h1.1 e he).resolve_left (by simp [hb]), fun j hj => ?_⟩
  have h2 := h1.2 j hj
  split at h2
  · rename_i hbit
    refine ⟨fun _ => ?_, fun hf => by rw [hbit] at hf; cases hf⟩
    obtain ⟨e, he, hb⟩ := Array.any_eq_true'.1 h2
    simp only [Bool.and_eq_true, Bool.or_eq_true, beq_iff_eq, decide_eq_true_eq] at hb
    exact ⟨e, he, hb.1, hb.2⟩
  · rename_i hbit
    refine ⟨fun hf => absurd hf hbit, fun _ y hy => ?_⟩
    rw [hy] at h2
    exact h2

/-- What is listed, is listed with all that comes before it. -/
def Closed (ops : Array Oper) (listed : Array Bool) : Prop := ∀ (k : Nat) (o : Oper), ops[k]? = some o → listed.getD k false = true → ∀ e ∈ o.after, Region.binds .any e = true → listed.getD e.on false = true

theorem listed_of_bit {strict : Bool} {order : List Nat} {ops : Array Oper} {iops : List IOper} (hn : iops.length = ops.size) (h : chkOrder strict order ops iops = true) {listed : Array Bool} (hc : Closed ops listed) :
    ∀ (i : Nat) (o : Oper), ops[i]? = some o → (∀ e ∈ o.after, Region.binds .any e = true → listed.getD e.on false = true) → ∀ j, j < i → (order.getD i 0).testBit j = true → listed.getD j false = true := by
  intro i
  induction i using Nat.strongRecOn with
  | _ i ih =>
    intro o ho hall j hj hbit
    have hi : i < ops.size := (Array.getElem?_eq_some_iff.1 ho).1
    have hx : iops[i]? = some (iops[i]'(by omega)) := List.getElem?_eq_getElem (by omega)
    obtain ⟨h1, h2⟩ := chkOrder_spec h hi hx ho
    obtain ⟨e, he, hb, hor⟩ := (h2 j hj).1 hbit
    have hel := hall e he hb
    have hei := h1 e he hb
    rcases hor with rfl | ⟨hje, hbe⟩
    · exact hel
    · have hoe : ops[e.on]? = some (ops[e.on]'(by omega)) := Array.getElem?_eq_getElem (by omega)
      exact ih e.on hei _ hoe (hc e.on _ hoe hel) j hje hbe

section
variable {P : Program} {call : Call} {m : List Nat} {strict : Bool} {ops : Array Oper} {iops : List IOper} {Q : Exit → Act → World → Prop} {g0 : G} {w0 : World} {s2 : St}

/-- The region's steps by their numbers. -/
def opsAt (iops : List IOper) (l : List Nat) : List IOper := l.filterMap (iops[·]?)

theorem opsAt_cons {i : Nat} {o : IOper} (h : iops[i]? = some o) (l : List Nat) : opsAt iops (i :: l) = o :: opsAt iops l := by simp [opsAt, h]

theorem opsAt_all : ∀ (l : List IOper), opsAt l (List.range l.length) = l := by
  intro l
  unfold opsAt
  apply List.ext_getElem?
  intro i
  have key : ∀ n, n ≤ l.length → (List.range n).filterMap (l[·]?) = l.take n := by
    intro n
    induction n with
    | zero => intro _; simp
    | succ n ih =>
      intro hn
      rw [List.range_succ, List.filterMap_append, ih (by omega)]
      have e : List.filterMap (fun x => l[x]?) [n] = [l[n]] := by simp [List.getElem?_eq_getElem (show n < l.length by omega)]
      rw [e]
      simp
  rw [key _ (Nat.le_refl _), List.take_length]

theorem ops_wp (hcs : CallSound P call) (hc : chkOps P ops iops = true) (hQ : ∀ a w g, Fr g0 w0 g w → Inv g s2 a w → Q .normal a w) :
    ∀ (l : List Nat), (∀ i ∈ l, i < ops.size) → ∀ s a w g, runOps (stepOp call m) (opsAt iops l) s = some s2 → Inv g s a w → Fr g0 w0 g w → wpOps P ops Q l a w := by
  intro l
  induction l with
  | nil =>
    intro _ s a w g h hi hf
    cases h
    exact hQ a w g hf hi
  | cons i l ih =>
    intro hl s a w g h hi hf
    obtain ⟨o, o', h1, h2, h3⟩ := (chkOps_spec hc).2 i (hl i (by simp))
    rw [opsAt_cons h1] at h
    obtain ⟨s1, h4, h5⟩ := Option.bind_eq_some_iff.1 h
    rw [wpOps_cons]
    exact stepOp_wp hcs h2 h3 hi h4 fun a' w' g' hf' hi' => ih (fun j hj => hl j (by simp [hj])) s1 a' w' g' h5 hi' (hf.trans hf')

theorem runOps_stepD : ∀ (l : List IOper) (s : St), runOps (stepD call m strict) l s = some s2 → runOps (stepOp call m) l s = some s2
  | [], _, h => h
  | o :: l, s, h => by
    obtain ⟨s1, h1, h2⟩ := Option.bind_eq_some_iff.1 h
    exact Option.bind_eq_some_iff.2 ⟨s1, stepD_stepOp h1, runOps_stepD l s1 h2⟩

def left (n : Nat) (listed : Array Bool) : List Nat := (List.range n).filter fun i => !listed.getD i true

theorem mem_left {n : Nat} {listed : Array Bool} {i : Nat} : i ∈ left n listed ↔ i < n ∧ listed.getD i true = false := by
  simp [left]

theorem left_sorted (n : Nat) (listed : Array Bool) : (left n listed).Pairwise (· < ·) := List.Pairwise.filter _ List.pairwise_lt_range

theorem left_set {n : Nat} {listed : Array Bool} {i : Nat} {pre post : List Nat} (h : left n listed = pre ++ i :: post) : left n (listed.setIfInBounds i true) = pre ++ post := by
  have hs := left_sorted n listed
  rw [h] at hs
  have e : left n (listed.setIfInBounds i true) = (left n listed).filter (fun j => !(j == i)) := by
    unfold left
    rw [List.filter_filter]
    apply List.filter_congr
    intro j _
    by_cases hj : i = j
    · subst hj
      by_cases hl : i < listed.size
      · simp [hl]
      · simp [hl]
    · have h1 : (j == i) = false := by simp; exact fun h => hj h.symm
      rw [getD_set_ne true hj]
      simp [h1]
  rw [e, h, List.filter_append, List.filter_cons]
  rw [List.pairwise_append, List.pairwise_cons] at hs
  obtain ⟨_, ⟨h2, _⟩, h3⟩ := hs
  have k1 : pre.filter (fun j => !(j == i)) = pre := List.filter_eq_self.2 fun j hj => by
    have := h3 j hj i (by simp)
    have : ¬ j = i := by omega
    simp [this]
  have k2 : post.filter (fun j => !(j == i)) = post := List.filter_eq_self.2 fun j hj => by
    have := h2 j hj
    have : ¬ j = i := by omega
    simp [this]
  rw [k1, k2]
  simp

theorem draw_wp (hcs : CallSound P call) {order : List Nat} (hc : chkOps P ops iops = true) (ho : chkOrder strict order ops iops = true) (hQ : ∀ a w g, Fr g0 w0 g w → Inv g s2 a w → Q .normal a w) :
    ∀ (fuel : Nat) (listed : Array Bool), listed.size = ops.size → Closed ops listed → fuel = (left ops.size listed).length → ∀ s a w g,
      runOps (stepD call m strict) (opsAt iops (left ops.size listed)) s = some s2 → Inv g s a w → Fr g0 w0 g w → wpAny P .any ops Q fuel listed a w := by
  have sub : ∀ (listed : Array Bool) i, i ∈ Region.ready .any ops listed → i ∈ left ops.size listed := by
    intro listed i hi
    obtain ⟨h1, o, h2, _⟩ := mem_ready.1 hi
    exact mem_left.2 ⟨(Array.getElem?_eq_some_iff.1 h2).1, h1⟩
  intro fuel
  induction fuel with
  | zero =>
    intro listed hsz hcl hl s a w g h hi hf
    have hnil : left ops.size listed = [] := List.length_eq_zero_iff.1 hl.symm
    rw [hnil] at h
    cases h
    refine ⟨?_, hQ a w g hf hi⟩
    cases hr : Region.ready .any ops listed with
    | nil => rfl
    | cons i _ =>
      have := sub listed i (by rw [hr]; simp)
      rw [hnil] at this
      cases this
  | succ fuel ih =>
    intro listed hsz hcl hl s a w g h hi hf
    refine ⟨fun hr => ?_, fun i hir => ?_⟩
    · exfalso
      cases hle : left ops.size listed with
      | nil => rw [hle] at hl; cases hl
      | cons i l =>
        have hmem := mem_left.1 (show i ∈ left ops.size listed by rw [hle]; simp)
        obtain ⟨x, o', h1, h2, _⟩ := (chkOps_spec hc).2 i hmem.1
        have hafter := (chkOrder_spec ho hmem.1 h1 h2).1
        have hready : i ∈ Region.ready .any ops listed := by
          refine mem_ready.2 ⟨hmem.2, o', h2, fun e he hb => ?_⟩
          have hlt := hafter e he hb
          have hn : e.on ∉ left ops.size listed := by
            rw [hle]
            have hs := left_sorted ops.size listed
            rw [hle, List.pairwise_cons] at hs
            intro hm
            rcases List.mem_cons.1 hm with hm | hm
            · omega
            · have := hs.1 _ hm; omega
          have hen : e.on < ops.size := by omega
          have : ¬ listed.getD e.on true = false := fun hq => hn (mem_left.2 ⟨hen, hq⟩)
          have hel : e.on < listed.size := by omega
          simp [hel] at this ⊢
          exact this
        rw [hr] at hready
        cases hready
    · have hil := sub listed i hir
      obtain ⟨pre, post, hpp⟩ := List.append_of_mem hil
      have hmem := mem_left.1 hil
      obtain ⟨x, o', h1, h2, h3⟩ := (chkOps_spec hc).2 i hmem.1
      have hsp := chkOrder_spec ho hmem.1 h1 h2
      have hafter : ∀ e ∈ o'.after, Region.binds .any e = true → listed.getD e.on false = true := by
        obtain ⟨_, o2, ho2, hall⟩ := mem_ready.1 hir
        rw [h2] at ho2
        cases ho2
        exact hall
      have hcl' : Closed ops (listed.setIfInBounds i true) := by
        intro k ok hk hlk e he hb
        by_cases hki : k = i
        · subst hki
          rw [h2] at hk
          cases hk
          exact getD_set_true (hafter e he hb)
        · rw [getD_set_ne false (fun h => hki h.symm)] at hlk
          exact getD_set_true (hcl k ok hk hlk e he hb)
      rw [hpp] at h
      have happ : opsAt iops (pre ++ i :: post) = opsAt iops pre ++ x :: opsAt iops post := by
        simp only [opsAt, List.filterMap_append, List.filterMap_cons, h1]
      rw [happ] at h
      obtain ⟨s1, h4, h5⟩ := front _ _ s s2 (fun z hz => by
        obtain ⟨j, hj, hzj⟩ := List.mem_filterMap.1 hz
        have hs := left_sorted ops.size listed
        rw [hpp, List.pairwise_append] at hs
        have hji : j < i := hs.2.2 j hj i (by simp)
        cases hbit : (order.getD i 0).testBit j with
        | false => exact (hsp.2 j hji).2 hbit z hzj
        | true =>
          exfalso
          have hl1 := listed_of_bit (chkOps_spec hc).1 ho hcl i o' h2 hafter j hji hbit
          have hl2 := (mem_left.1 (show j ∈ left ops.size listed by rw [hpp]; simp [hj])).2
          have hjl : j < listed.size := by rw [hsz]; omega
          simp [hjl] at hl1 hl2
          rw [hl1] at hl2
          cases hl2) h
      refine stepOp_wp hcs h2 h3 hi (stepD_stepOp h4) fun a' w' g' hf' hi' => ?_
      refine ih (listed.setIfInBounds i true) (by simpa using hsz) hcl' ?_ s1 a' w' g' ?_ hi' (hf.trans hf')
      · rw [left_set hpp]
        rw [hpp] at hl
        simp at hl ⊢
        omega
      · rw [left_set hpp]
        have : opsAt iops (pre ++ post) = opsAt iops pre ++ opsAt iops post := by simp [opsAt]
        rw [this]
        exact h5

end

/- CODE -/

def chkC (P : Program) : IC → Code → Bool
  | .stop, _ => true
  | .skip, .skip => true
  | .region iops draw order strict _ _, .region _ ops cdraw => chkOps P ops iops && (!cdraw || (draw && chkOrder strict order ops iops))
  | .seq a b, .seq x y => chkC P a x && chkC P b y
  | .cond c a b, .cond c' x y => chkSrc c c' && chkC P a x && chkC P b y
  | .block id a, .block id' x => id == id' && chkC P a x
  | .loop a, .loop x => chkC P a x
  | .exit id, .exit id' => id == id'
  | .ret, .ret => true
  | _, _ => false

def Ex.out : Ex → Exit
  | .normal => .normal
  | .exit id => .exit id
  | .ret => .ret

theorem Inv.drop {g : G} {a : Act} {w : World} : ∀ (ts : List Nat) (s : St), Inv g s a w → Inv g { s with env := dropAll s.env ts } a w := by
  intro ts
  induction ts with
  | nil => intro s hi; exact hi
  | cons t ts ih =>
    intro s hi
    refine ih { s with env := s.env.set t .undef } ⟨hi.defers, by simpa using hi.size, fun t' => ?_, hi.heap, hi.fresh⟩
    rw [getT_set]
    split
    · exact ⟨trivial, fun cs h => by cases h⟩
    · exact hi.env t'

theorem Inv.drew {g : G} {s : St} {a : Act} {w : World} (hi : Inv g s a w) : Inv g s a { w with drawn := w.drawn + 1 } ∧ Fr g w g { w with drawn := w.drawn + 1 } :=
  ⟨⟨hi.defers, hi.size, hi.env, ⟨hi.heap.len, hi.heap.rep⟩, ⟨hi.fresh.U, hi.fresh.O⟩⟩, ⟨⟨fun _ _ _ => rfl, fun _ => Nat.le_refl _, fun _ _ h => h⟩, Nat.le_refl _, fun _ _ h => ⟨rfl, rfl, h⟩, rfl, rfl⟩⟩

section
variable {P : Program} {call : Call}

theorem region_wp (hm : P.follows .mixedOrders = true) (hcs : CallSound P call) {m : List Nat} {iops : List IOper} {draw strict cdraw : Bool} {order : List Nat} {id : Nat} {ops : Array Oper}
    (hc : (chkOps P ops iops && (!cdraw || (draw && chkOrder strict order ops iops))) = true) {s s2 : St}
    (h : runOps (if draw then stepD call m strict else stepOp call m) iops s = some s2) {g : G} {a : Act} {w : World} (hi : Inv g s a w) {Q : Exit → Act → World → Prop}
    (hQ : ∀ a' w' g', Fr g w g' w' → Inv g' s2 a' w' → Q .normal a' w') : (Code.region id ops cdraw).wp P Q a w := by
  simp only [Bool.and_eq_true, Bool.or_eq_true, Bool.not_eq_true'] at hc
  obtain ⟨h1, h2⟩ := hc
  have hlen := (chkOps_spec h1).1
  cases cdraw with
  | false =>
    refine wp_region (ops_wp (m := m) hcs h1 hQ _ (fun i hi => List.mem_range.1 hi) s a w g ?_ hi (Fr.refl g w))
    rw [← hlen, opsAt_all]
    cases draw with
    | false => simpa using h
    | true => exact runOps_stepD iops s (by simpa using h)
  | true =>
    obtain ⟨h3, h4⟩ := h2.resolve_left (by simp)
    subst h3
    obtain ⟨hi', hf'⟩ := hi.drew
    have hl : left ops.size (Array.replicate ops.size false) = List.range ops.size := by
      unfold left
      apply List.filter_eq_self.2
      intro i hi
      have := List.mem_range.1 hi
      simp [this]
    refine wp_region_any hm (draw_wp (m := m) hcs h1 h4 hQ _ _ (by simp) (fun k o _ hk => by
      exfalso
      simp only [Array.getD_eq_getD_getElem?, Array.getElem?_replicate] at hk
      split at hk <;> simp at hk) (by rw [hl]; simp) s a _ g ?_ hi' hf')
    rw [hl, ← hlen, opsAt_all]
    simpa using h

/-- Code does what the evaluator does. -/
theorem evC_wp (hm : P.follows .mixedOrders = true) (hcs : CallSound P call) (n : Nat) : ∀ (c : IC) (code : Code), chkC P c code = true → ∀ s e s2, evC call n c s = some (e, s2) →
    ∀ g a w, Inv g s a w → ∀ Q : Exit → Act → World → Prop, (∀ a' w' g', Fr g w g' w' → Inv g' s2 a' w' → Q e.out a' w') → code.wp P Q a w := by
  intro c
  induction c with
  | skip =>
    intro code hc s e s2 h g a w hi Q hQ
    cases code <;> simp only [chkC, Bool.false_eq_true] at hc
    cases h
    exact wp_skip (hQ a w g (Fr.refl g w) hi)
  | ret =>
    intro code hc s e s2 h g a w hi Q hQ
    cases code <;> simp only [chkC, Bool.false_eq_true] at hc
    cases h
    exact wp_ret (hQ a w g (Fr.refl g w) hi)
  | stop =>
    intro code hc s e s2 h g a w hi Q hQ
    cases h
  | exit id =>
    intro code hc s e s2 h g a w hi Q hQ
    cases code <;> simp only [chkC, Bool.false_eq_true, beq_iff_eq] at hc
    subst hc
    cases h
    exact wp_exit (hQ a w g (Fr.refl g w) hi)
  | region iops draw order strict mask drop =>
    intro code hc s e s2 h g a w hi Q hQ
    cases code <;> simp only [chkC, Bool.false_eq_true] at hc
    simp only [evC] at h
    obtain ⟨s1, h1, h⟩ := Option.map_eq_some_iff.1 h
    cases h
    exact region_wp hm hcs hc h1 hi fun a' w' g' hf hi' => hQ a' w' g' hf (hi'.drop drop)
  | seq x y ihx ihy =>
    intro code hc s e s2 h g a w hi Q hQ
    cases code <;> simp only [chkC, Bool.false_eq_true, Bool.and_eq_true] at hc
    simp only [evC] at h
    refine wp_seq ?_
    split at h
    · rename_i s1 h1
      exact ihx _ hc.1 _ _ _ h1 g a w hi _ fun a' w' g' hf hi' => ihy _ hc.2 _ _ _ h g' a' w' hi' _ fun a2 w2 g2 hf2 hi2 => hQ a2 w2 g2 (hf.trans hf2) hi2
    · rename_i r hr
      refine ihx _ hc.1 _ _ _ h g a w hi _ fun a' w' g' hf hi' => ?_
      have := hQ a' w' g' hf hi'
      cases e with
      | normal => exact absurd h (hr s2)
      | exit id => exact this
      | ret => exact this
  | cond c x y ihx ihy =>
    intro code hc s e s2 h g a w hi Q hQ
    cases code <;> simp only [chkC, Bool.false_eq_true, Bool.and_eq_true] at hc
    simp only [evC] at h
    split at h
    · rename_i hv
      have hs := hi.see hc.1.1 (by rw [hv]; rfl)
      rw [hv] at hs
      exact wp_cond_true (Rep.bool_inv hs) (ihx _ hc.1.2 _ _ _ h g a w hi Q hQ)
    · rename_i hv
      have hs := hi.see hc.1.1 (by rw [hv]; rfl)
      rw [hv] at hs
      exact wp_cond_false (Rep.bool_inv hs) (ihy _ hc.2 _ _ _ h g a w hi Q hQ)
    · cases h
  | block id x ih =>
    intro code hc s e s2 h g a w hi Q hQ
    cases code <;> simp only [chkC, Bool.false_eq_true, Bool.and_eq_true, beq_iff_eq] at hc
    obtain ⟨rfl, hc⟩ := hc
    simp only [evC] at h
    refine wp_block ?_
    split at h
    · rename_i id' s1 h1
      refine ih _ hc _ _ _ h1 g a w hi _ fun a' w' g' hf hi' => ?_
      simp only [Ex.out, Exit.inBlock]
      split at h
      · rename_i hid
        cases h
        rw [if_pos hid]
        exact hQ a' w' g' hf hi'
      · rename_i hid
        cases h
        rw [if_neg hid]
        exact hQ a' w' g' hf hi'
    · rename_i r hr
      refine ih _ hc _ _ _ h g a w hi _ fun a' w' g' hf hi' => ?_
      have := hQ a' w' g' hf hi'
      cases e with
      | normal => exact this
      | exit id => exact absurd h (hr _ _)
      | ret => exact this
  | loop x ih =>
    intro code hc s e s2 h g a w hi Q hQ
    cases code <;> simp only [chkC, Bool.false_eq_true] at hc
    rename_i code
    simp only [evC] at h
    have key : ∀ k s, iter (evC call n x) k s = some (e, s2) → ∀ g1 a1 w1, Fr g w g1 w1 → Inv g1 s a1 w1 → Code.rounds P code Q k a1 w1 := by
      intro k
      induction k with
      | zero => intro s h; cases h
      | succ k ihk =>
        intro s h g1 a1 w1 hf1 hi1
        simp only [iter] at h
        rw [rounds_succ]
        split at h
        · rename_i s1 h1
          exact ih _ hc _ _ _ h1 g1 a1 w1 hi1 _ fun a' w' g' hf hi' => ihk s1 h g' a' w' (hf1.trans hf) hi'
        · rename_i r hr
          refine ih _ hc _ _ _ h g1 a1 w1 hi1 _ fun a' w' g' hf hi' => ?_
          have := hQ a' w' g' (hf1.trans hf) hi'
          cases e with
          | normal => exact absurd h (hr s2)
          | exit id => exact this
          | ret => exact this
    exact wp_loop_rounds n (key n s h g a w (Fr.refl g w) hi)

end
end Go.Proofs.YtflciaomdlgjpaaGreatDoor.VVE

namespace Go.Proofs.YtflciaomdlgjpaaGreatDoor.VVE

/- WHAT A CALL MADE IS FORGOTTEN -/

theorem underAll_get {n : Nat} : ∀ {vs : List V}, V.under.underAll n vs = true → ∀ (j : Nat) (v : V), vs[j]? = some v → v.under n = true
  | [], _, _, _, h => by simp at h
  | x :: xs, hu, j, v, h => by
    simp only [V.under.underAll, Bool.and_eq_true] at hu
    cases j with
    | zero => simp at h; subst h; exact hu.1
    | succ j => exact underAll_get hu.2 j v (by simpa using h)

theorem Rep.forget {cell : Addr → Option Value} {U : Nat → Nat} {β : List Nat} {n : Nat} {v : V} {x : Value} (h : Rep cell U β v x) : v.under n = true → Rep cell U (β.take n) v x := by
  induction h with
  | datum v x h => intro _; exact .datum v x h
  | ptr0 => intro _; exact .ptr0
  | ref i off b h =>
    intro hu
    have hi : i < n := by simpa [V.under] using hu
    exact .ref i off b (by rw [List.getElem?_take, if_pos hi]; exact h)
  | mp i b h =>
    intro hu
    have hi : i < n := by simpa [V.under] using hu
    exact .mp i b (by rw [List.getElem?_take, if_pos hi]; exact h)
  | eptr row b base off c h1 h2 => intro _; exact .eptr row b base off c h1 h2
  | clo f first cap fs cs h1 h2 _ _ ih1 ih2 =>
    intro hu
    simp only [V.under, Bool.and_eq_true] at hu
    exact .clo f first cap fs cs h1 h2 (fun j v hj => ih1 j v hj (underAll_get hu.1 j v hj)) (fun j v hj => ih2 j v hj (underAll_get hu.2 j v hj))
  | agg cells xs h1 _ ih =>
    intro hu
    exact .agg cells xs h1 fun j v hj => ih j v hj (underAll_get hu j v hj)
  | tup vs xs h1 _ ih =>
    intro hu
    exact .tup vs xs h1 fun j v hj => ih j v hj (underAll_get hu j v hj)
  | undef x => intro _; exact .undef x

mutual
theorem under_mono {i n : Nat} (hl : i ≤ n) : ∀ v : V, v.under i = true → v.under n = true
  | .undef, _ | .bool _, _ | .int .., _ | .str _, _ | .ptr0, _ | .eptr .., _ | .sl .., _ | .slt _, _ => rfl
  | .ref i' off, h => by simp only [V.under, decide_eq_true_eq] at *; omega
  | .mp i', h => by simp only [V.under, decide_eq_true_eq] at *; omega
  | .lref .., h => h
  | .box _, h => h
  | .clo f a b, h => by
    simp only [V.under, Bool.and_eq_true] at *
    exact ⟨underAll_mono hl a h.1, underAll_mono hl b h.2⟩
  | .agg cs, h => by
    simp only [V.under] at *
    exact underAll_mono hl cs h
  | .tup cs, h => by
    simp only [V.under] at *
    exact underAll_mono hl cs h
theorem underAll_mono {i n : Nat} (hl : i ≤ n) : ∀ vs : List V, V.under.underAll i vs = true → V.under.underAll n vs = true
  | [], _ => rfl
  | v :: vs, h => by
    simp only [V.under.underAll, Bool.and_eq_true] at *
    exact ⟨under_mono hl v h.1, underAll_mono hl vs h.2⟩
end

def G.forget (g : G) (n : Nat) : G := { g with β := g.β.take n }

theorem ObjRep.forget {g : G} {w : World} {i n : Nat} {o : Obj'} (h : ObjRep g w i o) (hi : i < n) : ObjRep (g.forget n) w i o := by
  have hb : ∀ b, g.β[i]? = some b → (g.forget n).β[i]? = some b := fun b h => by
    show (g.β.take n)[i]? = _
    rw [List.getElem?_take, if_pos hi]; exact h
  unfold ObjRep at *
  split
  · trivial
  · obtain ⟨b, h1, h2, ⟨h3, c, e, fr, h4, h5, h6, h7⟩, h8⟩ := h
    refine ⟨b, hb b h1, h2, ⟨h3, c, e, fr, h4, h5, h6, fun j v hj => ⟨(h7 j v hj).1, Rep.forget (h7 j v hj).2.1 ?_, (h7 j v hj).2.2⟩⟩, h8⟩
    have hu := h8 v (List.mem_of_getElem? hj)
    exact under_mono (Nat.le_of_lt hi) v hu
  · obtain ⟨b, h1, h2⟩ := h
    exact ⟨b, hb b h1, h2⟩

theorem PlRep.forget {g : G} {w : World} {n : Nat} {own : Own} {pl : Nat → Own} {v : V} {x : Value} (h : PlRep g w own pl v x) (hu : v.under n = true) : PlRep (g.forget n) w own pl v x := by
  unfold PlRep at *
  split
  · trivial
  · simp [V.under] at hu
  · simp [V.under] at hu
  · rename_i h1 h2 h3
    split at h
    · exact absurd rfl (h1 ·)
    · exact absurd rfl (h2 _ _ ·)
    · exact absurd rfl (h3 _ ·)
    · exact ⟨Rep.forget h.1 hu, h.2⟩

/- RESULTS -/

def chkRes (P : Program) : IRes → ResultVar → Bool
  | .tmp t, .tmp t' => t == t'
  | .cell t n agg, .cell t' ty => t == t' && aggOf P ty == some agg && sizeIs P ty n && (agg || n == 1)
  | _, _ => false

def chkRess (P : Program) : List IRes → List ResultVar → Bool
  | [], [] => true
  | r :: rs, q :: qs => chkRes P r q && chkRess P rs qs
  | _, _ => false

def oneResult (tmps : Array Value) : ResultVar → Sem Value
  | .tmp t => pure (tmps.getD t Go.undef)
  | .cell a t => do loadVar t (← asAddr (tmps.getD a Go.undef))

section
variable {P : Program} {g : G} {s : St} {a : Act} {w : World}

theorem run_loadVar {t : TypeId} {agg : Bool} {n : Nat} (ha : aggOf P t = some agg) (hs : sizeIs P t n = true) (hn : agg = true ∨ n = 1) {b off : Nat} {c : Nat → Value}
    (hc : ∀ j, j < n → w.cell? ⟨b, off + j, none⟩ = some (c j)) :
    (loadVar t ⟨b, off, none⟩).run P w = .ok (if agg then .agg ((List.range n).map c).toArray else c 0) w := by
  have := run_loadAt ha hs hn hc
  simpa [Instr.loadAt, Instr.sureAddr] using this

theorem oneResult_wp (hi : Inv g s a w) {r : IRes} {r' : ResultVar} (hc : chkRes P r r' = true) {v : V} (h : resOf s r = some v) :
    ∃ x t, (oneResult a.tmps r').run P w = .ok x w ∧ PlRep g w .pbox (.tc t) v x ∧ v.goes = true := by
  unfold chkRes at hc
  split at hc
  · rename_i t t'
    simp only [beq_iff_eq] at hc
    subst hc
    simp only [resOf] at h
    split at h
    · rename_i hg
      cases h
      refine ⟨a.tmps.getD t Go.undef, t, rfl, ?_, hg⟩
      have h0 := (hi.env t).1
      revert h0 hg
      cases getT s.env t <;> intro hg h0 <;> first
        | exact h0
        | (simp [V.goes] at hg; done)
    · cases h
  · rename_i t n agg t' ty
    simp only [Bool.and_eq_true, beq_iff_eq, Bool.or_eq_true] at hc
    obtain ⟨⟨⟨rfl, h2⟩, h3⟩, h4⟩ := hc
    simp only [resOf] at h
    obtain ⟨cs, hcs, h⟩ := Option.bind_eq_some_iff.1 h
    by_cases hb : ∃ cells, getT s.env t = .box cells
    · obtain ⟨cells, hb⟩ := hb
      have hv : VVE.val s.env (.t t) = .lref t 0 := by simp [VVE.val, hb]
      rw [hv] at hcs
      simp only [loadAt, hb] at hcs
      rw [hb] at h
      simp only [isBox, if_true] at h
      have h0 := (hi.env t).1
      rw [hb] at h0
      obtain ⟨b, hx, hO, hU, c, e, fr, hh, hs, hfz, hcc⟩ := h0
      obtain ⟨k1, k2, k3⟩ := cut_spec hcs
      have hcell : ∀ j, j < n → w.cell? ⟨b, 0 + j, none⟩ = some (c.getD j Go.undef) := fun j hj => by
        rw [cell_of hh, Nat.zero_add]
        exact getD_some (by omega)
      refine ⟨_, t, ?_, taken_pl (pl := .tc t) (c := fun j => c.getD j Go.undef) h k2 (fun j u hj => ?_), ?_⟩
      · simp only [oneResult, Sem.run_bind]
        rw [hx]
        simp only [asAddr]
        exact run_loadVar h2 h3 h4 hcell
      · have hjn : j < n := by rw [← k2]; exact (List.getElem?_eq_some_iff.1 hj).1
        have := k3 j hjn
        rw [hj, Nat.zero_add] at this
        exact hcc j u this.symm
      · unfold ofCells at h
        split at h
        · cases h; rfl
        · split at h
          · split at h
            · rename_i v' hl
              cases h
              revert hl
              cases v <;> intro hl <;> first | rfl | simp [V.leaf] at hl
            · cases h
          · cases h
    · have hbf : isBox (getT s.env t) = false := by
        cases hq : getT s.env t <;> first | rfl | exact absurd ⟨_, hq⟩ hb
      rw [hbf] at h
      simp only [Bool.false_eq_true, if_false] at h
      obtain ⟨hl, b, off, e, c, hcl, hr⟩ := hi.under (x := .t t) (x' := .tmp t) (by simp [chkSrc]) hcs
      have hrep := rep_ofCells (g := g) (w := w) h (n := n) (by simpa using hl) (c := c) (fun j v hj => by
        rw [List.getElem?_map] at hj
        obtain ⟨u, hu, rfl⟩ := Option.map_eq_some_iff.1 hj
        exact (hr j u hu).share1)
      have hg := rep_not_box v hrep
      refine ⟨_, t, ?_, PlRep.of_calm hrep (ofCells_calm h) hg, hg⟩
      simp only [oneResult, Sem.run_bind]
      have e' : a.tmps.getD t Go.undef = .pointer (some ⟨b, off, none⟩) := e
      rw [e']
      simp only [asAddr]
      exact run_loadVar h2 h3 h4 hcl
  · cases hc

theorem allResults_wp (hi : Inv g s a w) : ∀ (rs : List IRes) (qs : List ResultVar) (vs : List V), chkRess P rs qs = true → resAll s rs = some vs →
    ∃ xs : List Value, (qs.mapM (oneResult a.tmps)).run P w = .ok xs w ∧ xs.length = vs.length ∧
      ∀ (j : Nat) (v : V), vs[j]? = some v → ∃ t, PlRep g w .pbox (.tc t) v (xs.getD j Go.undef) ∧ v.goes = true
  | [], [], vs, _, h => by
    cases h
    exact ⟨[], by simp, rfl, fun j v hj => by simp at hj⟩
  | r :: rs, q :: qs, vs, hc, h => by
    simp only [chkRess, Bool.and_eq_true] at hc
    simp only [resAll] at h
    obtain ⟨v, hv, h⟩ := Option.bind_eq_some_iff.1 h
    obtain ⟨vs', hvs, h⟩ := Option.map_eq_some_iff.1 h
    subst h
    obtain ⟨x, t, h1, h2, h3⟩ := oneResult_wp hi hc.1 hv
    obtain ⟨xs, h4, h5, h6⟩ := allResults_wp hi rs qs vs' hc.2 hvs
    refine ⟨x :: xs, by simp [List.mapM_cons, h1, h4], by simp [h5], fun j u hj => ?_⟩
    cases j with
    | zero => simp at hj; subst hj; exact ⟨t, h2, h3⟩
    | succ j => exact h6 j u (by simpa using hj)
  | [], _ :: _, _, hc, _ => by simp [chkRess] at hc
  | _ :: _, [], _, hc, _ => by simp [chkRess] at hc

def resF : Own → Own
  | .tc _ j => .pend j
  | p => p

theorem goes_share {v : V} (h : v.goes = true) : v.share.goes = true := by cases v <;> first | rfl | simp [V.goes] at h

theorem goes_nb {v : V} (h : v.goes = true) : ∀ cs, v ≠ .box cs := by rintro cs rfl; simp [V.goes] at h

/-- What a function yields. -/
theorem results_wp (hi : Inv g s a w) {fn : Func} {rs : List IRes} (hc : chkRess P rs fn.results.toList = true) {vs : List V} (h : resAll s rs = some vs) (keep : Bool) :
    ∃ x, (results fn a.tmps).run P w = .ok x w ∧ PlRep (g.ren resF) w .pbox .pend (if keep then packRes vs else (packRes vs).share) x := by
  obtain ⟨xs, h1, h2, h3⟩ := allResults_wp hi rs _ vs hc h
  have hrun : (results fn a.tmps).run P w = .ok (if h : xs.toArray.size = 1 then xs.toArray[0] else .tuple xs.toArray) w := by
    have e : results fn a.tmps = (do
        let vs ← fn.results.mapM (oneResult a.tmps)
        pure (if h : vs.size = 1 then vs[0] else .tuple vs)) := rfl
    rw [e, Array.mapM_eq_mapM_toList]
    simp only [Sem.run_bind, Sem.run_map, h1]
    rfl
  refine ⟨_, hrun, ?_⟩
  by_cases hl : vs.length = 1
  · obtain ⟨v, rfl⟩ := List.length_eq_one_iff.1 hl
    obtain ⟨x, rfl⟩ := List.length_eq_one_iff.1 (h2.trans hl)
    obtain ⟨t, hp, hg⟩ := h3 0 v rfl
    have hp' : PlRep (g.ren resF) w .pbox .pend v x := hp.ren resF rfl (fun j => rfl)
    simp only [packRes]
    cases keep with
    | true => exact hp'
    | false => exact hp'.share (goes_nb hg)
  · have hx : ¬ xs.toArray.size = 1 := by simpa [h2] using hl
    rw [dif_neg hx]
    have hpk : packRes vs = .tup (vs.map V.share2) := by
      unfold packRes
      split
      · rename_i v; exact absurd rfl hl
      · rfl
    have hrep : (g.ren resF).Rep w (.tup (vs.map V.share2)) (.tuple xs.toArray) := by
      refine .tup _ xs (by simp [h2]) fun j v hj => ?_
      rw [List.getElem?_map] at hj
      obtain ⟨u, hu, rfl⟩ := Option.map_eq_some_iff.1 hj
      obtain ⟨t, hp, hg⟩ := h3 j u hu
      exact (hp.rep hg).share2
    rw [hpk]
    have hs : (if keep then V.tup (vs.map V.share2) else (V.tup (vs.map V.share2)).share) = .tup (if keep then vs.map V.share2 else (vs.map V.share2).map V.share2) := by
      cases keep <;> rfl
    rw [hs]
    have hrep' : (g.ren resF).Rep w (.tup (if keep then vs.map V.share2 else (vs.map V.share2).map V.share2)) (.tuple xs.toArray) := by
      rw [← hs]
      cases keep with
      | true => exact hrep
      | false => exact Rep.share hrep
    refine PlRep.of_calm hrep' (fun j u hj rows => ?_) rfl
    simp only [V.cells] at hj
    obtain ⟨_, rfl⟩ := List.getElem?_eq_some_iff.1 hj
    simp

end

/- CALLS -/

def chkFunc (P : Program) (fn : IFunc) (fn' : Func) : Bool :=
  !(fn'.name == "runtime.NumGoroutine") && (match fn'.body with | some c => chkC P fn.body c | none => false) && fn.ntmps == fn'.ntmps && chkRess P fn.results fn'.results.toList

theorem evF_sound {P : Program} (hm : P.follows .mixedOrders = true) {call : Call} (hcs : CallSound P call) {n : Nat} {fn : IFunc} {fn' : Func} {f : Nat} (hf : P.funcs[f]? = some fn') (hc : chkFunc P fn fn' = true)
    {vs : List V} {h h' : List Obj'} {v : V} (hev : evF call n fn vs h = some (v, h')) (hg : vs.all V.goes = true) (g : G) (w : World) (xs : Array Value) (hsz : xs.size = vs.length)
    (hargs : ∀ i, PlRep g w (.box i) (.tc i) (getT vs i) (xs.getD i Go.undef)) (hh : HeapInv g h w) (hfr : Fresh g w) : FuncOk P f ∧ Calls P f xs w (After g w v h') := by
  simp only [chkFunc, Bool.and_eq_true, beq_iff_eq, Bool.not_eq_true'] at hc
  obtain ⟨⟨⟨c1, c2⟩, c3⟩, c4⟩ := hc
  cases hb : fn'.body with
  | none => rw [hb] at c2; cases c2
  | some code =>
    rw [hb] at c2
    refine ⟨⟨fn', hf, c1, by rw [hb]; rfl⟩, ?_⟩
    unfold evF at hev
    split at hev
    · rename_i hle
      have main : ∀ e s2, evC call n fn.body { env := vs ++ List.replicate (fn.ntmps - vs.length) .undef, heap := h } = some (e, s2) → (e = .normal ∨ e = .ret) →
          ((resAll s2 fn.results).map fun vs => finish fn.keep h.length (packRes vs) s2.heap) = some (v, h') → Calls P f xs w (After g w v h') := by
        intro e s2 hbody hee hres
        obtain ⟨rv, hrv, hfin⟩ := Option.map_eq_some_iff.1 hres
        have hi0 : Inv g { env := vs ++ List.replicate (fn.ntmps - vs.length) .undef, heap := h } { tmps := xs ++ Array.replicate (fn'.ntmps - xs.size) Go.undef, defers := [] } w := by
          refine ⟨rfl, by simp [hsz, c3], fun t => ?_, hh, hfr⟩
          dsimp only
          rw [getT_append]
          split
          · rename_i ht
            have e1 : (xs ++ Array.replicate (fn'.ntmps - xs.size) Go.undef).getD t Go.undef = xs.getD t Go.undef := by
              have : t < xs.size := by omega
              simp [Array.getElem?_append, this]
            rw [e1]
            exact TmpRep.of_solid (hargs t) (goes_nb (goes_getT hg t))
          · have e1 : getT (List.replicate (fn.ntmps - vs.length) V.undef) (t - vs.length) = .undef := by
              unfold getT
              rw [List.getD_eq_getElem?_getD, List.getElem?_replicate]
              split <;> rfl
            rw [e1]
            exact ⟨trivial, fun cs hcs => by cases hcs⟩
        refine calls_of_wp hf hb (evC_wp hm hcs n _ _ c2 _ _ _ hbody g _ w hi0 _ fun a' w' g' hfr' hi' => ?_)
        have fin : a'.defers = [] ∧ ∃ v', (results fn' a'.tmps).run P w' = .ok v' w' ∧ After g w v h' (.returned v') w' := by
          refine ⟨hi'.defers, ?_⟩
          obtain ⟨x, hx, hpl⟩ := results_wp hi' c4 hrv fn.keep
          refine ⟨x, hx, ?_⟩
          have hF : Fr g w (g'.ren resF) w' := hfr'.trans (Fr.ren g' w' resF)
          have hH : HeapInv (g'.ren resF) s2.heap w' := hi'.heap.ren resF (fun _ => rfl) (fun _ _ => rfl)
          have hFr : Fresh (g'.ren resF) w' := hi'.fresh.ren resF
          unfold finish at hfin
          dsimp only at hfin
          generalize (if fn.keep = true then packRes rv else (packRes rv).share) = kv at hfin hpl
          split at hfin
          · rename_i hu
            cases hfin
            refine ⟨x, (g'.ren resF).forget h.length, rfl, ⟨⟨hF.pub, hF.U, fun i b hb' => ?_⟩, hF.size, hF.un, hF.os, hF.out⟩, ⟨?_, fun i o hio => ?_⟩, ⟨hFr.U, hFr.O⟩, hpl.forget hu⟩
            · show ((g'.ren resF).β.take h.length)[i]? = some b
              have hi1 : i < h.length := by rw [hh.len]; exact (List.getElem?_eq_some_iff.1 hb').1
              rw [List.getElem?_take, if_pos hi1]
              exact hF.β i b hb'
            · show (s2.heap.take h.length).length = ((g'.ren resF).β.take h.length).length
              rw [List.length_take, List.length_take, hH.len]
            · rw [List.getElem?_take] at hio
              split at hio
              · rename_i hlt
                exact (hH.rep i o hio).forget hlt
              · cases hio
          · cases hfin
            exact ⟨x, _, rfl, hF, hH, hFr, hpl⟩
        rcases hee with rfl | rfl
        · exact fin
        · exact fin
      split at hev
      · rename_i s2 hbody; exact main _ s2 hbody (.inl rfl) hev
      · rename_i s2 hbody; exact main _ s2 hbody (.inr rfl) hev
      · cases hev
    · cases hev

/-- The functions of the small form are those of the program. -/
def Matches (P : Program) (prg : Nat → Option IFunc) : Prop := ∀ f fn, prg f = some fn → ∃ fn', P.funcs[f]? = some fn' ∧ chkFunc P fn fn' = true

theorem ev_sound {P : Program} (hm : P.follows .mixedOrders = true) {prg : Nat → Option IFunc} (hp : Matches P prg) : ∀ n, CallSound P (ev prg n)
  | 0 => fun f vs h v h' hev => by cases hev
  | n + 1 => fun f vs h v h' hev hg g w xs hsz hargs hh hfr => by
    simp only [ev] at hev
    obtain ⟨fn, hfn, hev⟩ := Option.bind_eq_some_iff.1 hev
    obtain ⟨fn', hf, hc⟩ := hp f fn hfn
    exact evF_sound hm (ev_sound hm hp n) hf hc hev hg g w xs hsz hargs hh hfr

end Go.Proofs.YtflciaomdlgjpaaGreatDoor.VVE

namespace Go.Proofs.YtflciaomdlgjpaaGreatDoor.VVE

def thenC (r : Option (Ex × St)) (k : St → Option (Ex × St)) : Option (Ex × St) :=
  match r with
  | some (.normal, s) => k s
  | r => r

def condC (v : V) (f g : St → Option (Ex × St)) (s : St) : Option (Ex × St) :=
  match v with
  | .bool true => f s
  | .bool false => g s
  | _ => none

def blockC (id : Nat) (r : Option (Ex × St)) : Option (Ex × St) :=
  match r with
  | some (.exit id', s') => if id' = id then some (.normal, s') else some (.exit id', s')
  | r => r

def runR (step : St → IOper → Option St) (ops : List IOper) (r : Option St) : Option St :=
  match r with
  | some s => runOps step ops s
  | none => none

def endR (drop : List Nat) (r : Option St) : Option (Ex × St) :=
  match r with
  | some s' => some (.normal, { s' with env := dropAll s'.env drop })
  | none => none

def putR (dst : Option Nat) (r : Option (V × St)) : Option St :=
  match r with
  | some r => some { r.2 with env := write r.2.env dst r.1 }
  | none => none

def putD (dst : Option Nat) (r : Option (V × St)) : Option St :=
  match r with
  | some r => if isBox r.1 then none else some { r.2 with env := put r.2.env dst r.1 }
  | none => none

def guardK (v : V) (want : Bool) (r r' : Unit → Option St) : Option St :=
  match v with
  | .bool b => if b == want then r () else r' ()
  | _ => none

def loopC (r : Option (Ex × St)) (k : St → Option (Ex × St)) : Option (Ex × St) :=
  match r with
  | some (.normal, s') => k s'
  | r => r

section
variable {call : Call} {n : Nat} {s : St} {step : St → IOper → Option St}

@[simp] theorem thenC_normal (k : St → Option (Ex × St)) : thenC (some (.normal, s)) k = k s := rfl
@[simp] theorem thenC_exit (id : Nat) (k : St → Option (Ex × St)) : thenC (some (.exit id, s)) k = some (.exit id, s) := rfl
@[simp] theorem thenC_ret (k : St → Option (Ex × St)) : thenC (some (.ret, s)) k = some (.ret, s) := rfl
@[simp] theorem condC_true (f g : St → Option (Ex × St)) : condC (.bool true) f g s = f s := rfl
@[simp] theorem condC_false (f g : St → Option (Ex × St)) : condC (.bool false) f g s = g s := rfl
@[simp] theorem blockC_normal (id : Nat) : blockC id (some (.normal, s)) = some (.normal, s) := rfl
@[simp] theorem blockC_ret (id : Nat) : blockC id (some (.ret, s)) = some (.ret, s) := rfl
@[simp] theorem blockC_exit (id id' : Nat) : blockC id (some (.exit id', s)) = if id' = id then some (.normal, s) else some (.exit id', s) := rfl
@[simp] theorem runR_some (ops : List IOper) : runR step ops (some s) = runOps step ops s := rfl
@[simp] theorem endR_some (drop : List Nat) : endR drop (some s) = some (.normal, { s with env := dropAll s.env drop }) := rfl
@[simp] theorem putR_some (dst : Option Nat) (v : V) : putR dst (some (v, s)) = some { s with env := write s.env dst v } := rfl

@[simp] theorem evC_seq (a b : IC) : evC call n (.seq a b) s = thenC (evC call n a s) (evC call n b) := by
  simp only [evC]
  rfl
@[simp] theorem evC_cond (c : Src) (a b : IC) : evC call n (.cond c a b) s = condC (val s.env c) (evC call n a) (evC call n b) s := by
  simp only [evC]
  rfl
@[simp] theorem evC_block (id : Nat) (a : IC) : evC call n (.block id a) s = blockC id (evC call n a s) := by
  simp only [evC]
  rfl
@[simp] theorem evC_skip : evC call n .skip s = some (.normal, s) := rfl
@[simp] theorem evC_ret : evC call n .ret s = some (.ret, s) := rfl
@[simp] theorem evC_exit (id : Nat) : evC call n (.exit id) s = some (.exit id, s) := rfl
@[simp] theorem evC_region (ops : List IOper) (order : List Nat) (strict : Bool) (mask drop : List Nat) :
    evC call n (.region ops false order strict mask drop) s = endR drop (runOps (stepOp call (maskIds s.env mask)) ops s) := by
  simp only [evC, endR, Bool.false_eq_true, if_false]
  cases runOps (stepOp call (maskIds s.env mask)) ops s <;> rfl
@[simp] theorem evC_draw (ops : List IOper) (order : List Nat) (strict : Bool) (mask drop : List Nat) :
    evC call n (.region ops true order strict mask drop) s = endR drop (runOps (stepD call (maskIds s.env mask) strict) ops s) := by
  simp only [evC, endR, if_true]
  cases runOps (stepD call (maskIds s.env mask) strict) ops s <;> rfl
@[simp] theorem loopC_normal (k : St → Option (Ex × St)) : loopC (some (.normal, s)) k = k s := rfl
@[simp] theorem loopC_exit (id : Nat) (k : St → Option (Ex × St)) : loopC (some (.exit id, s)) k = some (.exit id, s) := rfl
@[simp] theorem loopC_ret (k : St → Option (Ex × St)) : loopC (some (.ret, s)) k = some (.ret, s) := rfl
theorem iter_succ (body : St → Option (Ex × St)) (n : Nat) : iter body (n + 1) s = loopC (body s) (iter body n) := by
  simp only [iter]
  rfl
theorem evC_loop (a : IC) : evC call n (.loop a) s = iter (evC call n a) n s := rfl

@[simp] theorem runOps_nil : runOps step [] s = some s := rfl
@[simp] theorem runOps_cons (o : IOper) (ops : List IOper) : runOps step (o :: ops) s = runR step ops (step s o) := by
  simp only [runOps, runR]
  cases step s o <;> rfl

@[simp] theorem stepOp_plain (m : List Nat) (dst : Option Nat) (op : IOp) : stepOp call m s ⟨dst, op, none⟩ = putR dst (effOp call m s op) := by
  simp only [stepOp, guardOf, putR]
  cases effOp call m s op <;> rfl

@[simp] theorem putD_some (dst : Option Nat) (v : V) : putD dst (some (v, s)) = if isBox v then none else some { s with env := put s.env dst v } := rfl

@[simp] theorem stepD_plain (m : List Nat) (strict : Bool) (dst : Option Nat) (op : IOp) : stepD call m strict s ⟨dst, op, none⟩ =
    if op.heavy then putR dst (effOp call m s op) else if dstOk s.env dst && safeLoad m strict s.env op then putD dst (effOp call m s op) else none := by
  unfold stepD
  simp only [guardOf]
  split
  · exact stepOp_plain m dst op
  · split
    · simp only [putD]
      cases effOp call m s op <;> rfl
    · rfl

@[simp] theorem guardK_bool (b want : Bool) (r r' : Unit → Option St) : guardK (.bool b) want r r' = if b == want then r () else r' () := rfl

@[simp] theorem stepOp_guard (m : List Nat) (dst : Option Nat) (op : IOp) (t : Nat) (want : Bool) : stepOp call m s ⟨dst, op, some (t, want)⟩ =
    guardK (getT s.env t) want (fun _ => putR dst (effOp call m s op)) (fun _ => some { s with env := put s.env dst .undef }) := by
  simp only [stepOp, guardOf, guardK, putR]
  cases getT s.env t <;> try rfl
  rename_i b
  show (match some (b == want) with
    | some true => _
    | some false => _
    | none => _) = if (b == want) = true then _ else _
  generalize (b == want) = c
  cases c
  · rfl
  · cases effOp call m s op <;> rfl

@[simp] theorem stepD_guard (m : List Nat) (strict : Bool) (dst : Option Nat) (op : IOp) (t : Nat) (want : Bool) : stepD call m strict s ⟨dst, op, some (t, want)⟩ =
    if op.heavy then stepOp call m s ⟨dst, op, some (t, want)⟩ else if dstOk s.env dst && safeLoad m strict s.env op then
      guardK (getT s.env t) want (fun _ => putD dst (effOp call m s op)) (fun _ => some { s with env := put s.env dst .undef }) else none := by
  simp only [stepD, guardOf, guardK, putD]
  split
  · rfl
  · split
    · cases getT s.env t <;> try rfl
      rename_i b
      show (match some (b == want) with
        | some true => _
        | some false => _
        | none => _) = if (b == want) = true then _ else _
      generalize (b == want) = c
      cases c
      · rfl
      · cases effOp call m s op <;> rfl
    · rfl

@[simp] theorem maskIds_cons (env : List V) (t : Nat) (ts : List Nat) : maskIds env (t :: ts) = (match getT env t with | .ref i _ => i :: maskIds env ts | _ => maskIds env ts) := by
  simp only [maskIds, List.filterMap_cons]
  cases getT env t <;> rfl

@[simp] theorem maskIds_nil (env : List V) : maskIds env [] = [] := rfl
@[simp] theorem getT_cons_zero (v : V) (l : List V) : getT (v :: l) 0 = v := getT_zero v l
@[simp] theorem getT_cons_succ (v : V) (l : List V) (i : Nat) : getT (v :: l) (i + 1) = getT l i := getT_succ v l i

end

attribute [simp] effOp runOp val V.share V.share1 V.share2 write put vbin vbinInt vshift vbinStr vbeq vun dropAll loadAt storeAt cut ofCells V.leaf V.datum V.cells vfaddr splice drain appendable rowsFor
  rowOf fillRows fillTake fillCells viaddr vindex vfield vlen vslen vslice vsubstr bound optBound toByte takeAll callMasked maskObj unmask gones V.goes V.under V.under.underAll zeroRow resAll resOf packRes finish guardOf isBox dstOk safeLoad safeAddr IOp.heavy kill

@[simp] theorem wrap_lit0 : IntKind.i64.wrap 0 = 0 := by decide
@[simp] theorem wrap_lit1 : IntKind.i64.wrap 1 = 1 := by decide
@[simp] theorem wrap_lit2 : IntKind.i64.wrap 2 = 2 := by decide
@[simp] theorem wrap_lit3 : IntKind.i64.wrap 3 = 3 := by decide
@[simp] theorem wrap_lit4 : IntKind.i64.wrap 4 = 4 := by decide
@[simp] theorem wrap_lit5 : IntKind.i64.wrap 5 = 5 := by decide
@[simp] theorem wrap_lit6 : IntKind.i64.wrap 6 = 6 := by decide
@[simp] theorem wrap_lit7 : IntKind.i64.wrap 7 = 7 := by decide
@[simp] theorem wrap_lit8 : IntKind.i64.wrap 8 = 8 := by decide
@[simp] theorem wrap_lit9 : IntKind.i64.wrap 9 = 9 := by decide
@[simp] theorem wrap_lit10 : IntKind.i64.wrap 10 = 10 := by decide
@[simp] theorem wrap_lit11 : IntKind.i64.wrap 11 = 11 := by decide
@[simp] theorem wrap_lit12 : IntKind.i64.wrap 12 = 12 := by decide
@[simp] theorem wrap_lit13 : IntKind.i64.wrap 13 = 13 := by decide
@[simp] theorem wrap_lit14 : IntKind.i64.wrap 14 = 14 := by decide
@[simp] theorem wrap_lit15 : IntKind.i64.wrap 15 = 15 := by decide
@[simp] theorem wrap_lit16 : IntKind.i64.wrap 16 = 16 := by decide
@[simp] theorem wrap_lit24 : IntKind.i64.wrap 24 = 24 := by decide
@[simp] theorem wrap_lit32 : IntKind.i64.wrap 32 = 32 := by decide
@[simp] theorem wrap_lit40 : IntKind.i64.wrap 40 = 40 := by decide
@[simp] theorem wrap_lit48 : IntKind.i64.wrap 48 = 48 := by decide
@[simp] theorem wrap_lit56 : IntKind.i64.wrap 56 = 56 := by decide
@[simp] theorem wrap_lit64 : IntKind.i64.wrap 64 = 64 := by decide
@[simp] theorem u64_signed : IntKind.u64.signed = false := rfl

@[simp] theorem rowsWide_bytes (b : Bool) (l : List UInt8) : rowsWide 1 (.sl b (ofBytes l)) := by
  cases l <;> simp [rowsWide, ofBytes, V.cells]

@[simp] theorem rowsWide_cons (b : Bool) (sz : Nat) (r : V) (rows : List V) : rowsWide sz (.sl b (r :: rows)) = (r.cells.length = sz) := rfl

@[simp] theorem rowsWide_nil (b : Bool) (sz : Nat) : rowsWide sz (.sl b []) = True := rfl

@[simp] theorem length_ofBytes (l : List UInt8) : (ofBytes l).length = l.length := by simp [ofBytes]

theorem ofBytes_append (l l' : List UInt8) : ofBytes (l ++ l') = ofBytes l ++ ofBytes l' := by simp [ofBytes]

end Go.Proofs.YtflciaomdlgjpaaGreatDoor.VVE

namespace Go.Proofs.YtflciaomdlgjpaaGreatDoor.VVE
open Go

/-- Nothing is owned; all that lies is fixed. -/
def G.start (w : World) : G where
  U b := match w.heap[b]? with
    | some (.cells c _ _) => c.size
    | _ => 0
  O _ := none
  β := []
  lam _ := none

theorem fresh_start (w : World) : Fresh (G.start w) w :=
  ⟨fun b hb => by simp [G.start, Array.getElem?_eq_none hb], fun _ _ => rfl⟩

theorem heapInv_start (w : World) : HeapInv (G.start w) [] w := ⟨rfl, fun i o h => by simp at h⟩

theorem keptBut_of_fr {w w' : World} {g' : G} (h : Fr (G.start w) w g' w') : w.keptBut w' (fun _ => False) := by
  refine ⟨h.os, h.out, fun i hi => ?_⟩
  have e := (h.un i hi rfl).1
  rw [e]
  cases w.heap[i]? with
  | none => rfl
  | some x => cases x <;> simp

theorem calls_of_ev {P : Program} (hm : P.follows .mixedOrders = true) {prg : Nat → Option IFunc} (hp : Matches P prg) (n : Nat) {f : Nat} {vs : List V} {v : V} {h' : List Obj'} (he : ev prg n f vs [] = some (v, h'))
    (hg : vs.all V.goes = true) (W : World) (xs : Array Value) (hx : xs.size = vs.length) (ha : ∀ i, PlRep (G.start W) W (.box i) (.tc i) (getT vs i) (xs.getD i Go.undef)) :
    Calls P f xs W (fun e W' => ∃ x g', e = .returned x ∧ Fr (G.start W) W g' W' ∧ PlRep g' W' .pbox .pend v x) :=
  ((ev_sound hm hp n f vs [] v h' he hg (G.start W) W xs hx ha (heapInv_start W) (fresh_start W)).2).mono fun e W' ⟨x, g', h1, h2, _, _, h5⟩ => ⟨x, g', h1, h2, h5⟩

/-- A call that yields 'true'. -/
theorem calls_true {P : Program} (hm : P.follows .mixedOrders = true) {prg : Nat → Option IFunc} (hp : Matches P prg) (n : Nat) {f : Nat} {vs : List V} {h' : List Obj'} (he : ev prg n f vs [] = some (.bool true, h'))
    (hg : vs.all V.goes = true) (W : World) (xs : Array Value) (hx : xs.size = vs.length) (ha : ∀ i, PlRep (G.start W) W (.box i) (.tc i) (getT vs i) (xs.getD i Go.undef)) :
    Calls P f xs W (fun e W' => e = .returned (.bool true) ∧ W.keptBut W' (fun _ => False)) :=
  (calls_of_ev hm hp n he hg W xs hx ha).mono fun e W' ⟨x, g', h1, h2, h3⟩ => by
    have h4 : g'.Rep W' (.bool true) x := h3.1
    cases h4 with
    | datum _ _ hd => cases hd; exact ⟨h1, keptBut_of_fr h2⟩

end Go.Proofs.YtflciaomdlgjpaaGreatDoor.VVE

