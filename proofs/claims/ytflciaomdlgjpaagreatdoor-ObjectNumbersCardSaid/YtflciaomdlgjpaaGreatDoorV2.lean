/-
  What each single operation does, in the small form and in memory (first part).
-/
import Derived.Test.YtflciaomdlgjpaaGreatDoorV1
import Derived.Laws.Slices
import Derived.Laws.Tables
set_option linter.unusedVariables false
set_option linter.unusedSimpArgs false
namespace Go.Proofs.YtflciaomdlgjpaaGreatDoor.VVE

theorem Rep.int_inv {cell : Addr → Option Value} {U : Nat → Nat} {β : List Nat} {k : IntKind} {n : Int} {x : Value} (h : Rep cell U β (.int k n) x) : x = .int k n := by
  cases h with | datum _ _ h => cases h; rfl
theorem Rep.bool_inv {cell : Addr → Option Value} {U : Nat → Nat} {β : List Nat} {b : Bool} {x : Value} (h : Rep cell U β (.bool b) x) : x = .bool b := by
  cases h with | datum _ _ h => cases h; rfl
theorem Rep.str_inv {cell : Addr → Option Value} {U : Nat → Nat} {β : List Nat} {l : List UInt8} {x : Value} (h : Rep cell U β (.str l) x) : ∃ s, x = .string s ∧ s.data.toList = l := by
  cases h with | datum _ _ h => cases h with | str _ s h => exact ⟨s, rfl, h⟩
theorem Rep.sl_inv {cell : Addr → Option Value} {U : Nat → Nat} {β : List Nat} {app : Bool} {rows : List V} {x : Value} (h : Rep cell U β (.sl app rows) x) : RepD cell U (.sl app rows) x := by
  cases h with | datum _ _ h => exact h
theorem Rep.agg_inv {cell : Addr → Option Value} {U : Nat → Nat} {β : List Nat} {cells : List V} {x : Value} (h : Rep cell U β (.agg cells) x) :
    ∃ xs : List Value, x = .agg xs.toArray ∧ xs.length = cells.length ∧ ∀ (j : Nat) (v : V), cells[j]? = some v → Rep cell U β v (xs.getD j Go.undef) := by
  cases h with
  | datum _ _ h => cases h
  | agg _ xs h1 h2 => exact ⟨xs, rfl, h1, h2⟩
theorem Rep.tup_inv {cell : Addr → Option Value} {U : Nat → Nat} {β : List Nat} {vs : List V} {x : Value} (h : Rep cell U β (.tup vs) x) :
    ∃ xs : List Value, x = .tuple xs.toArray ∧ xs.length = vs.length ∧ ∀ (j : Nat) (v : V), vs[j]? = some v → Rep cell U β v (xs.getD j Go.undef) := by
  cases h with
  | datum _ _ h => cases h
  | tup _ xs h1 h2 => exact ⟨xs, rfl, h1, h2⟩

theorem Rep.ref_inv {cell : Addr → Option Value} {U : Nat → Nat} {β : List Nat} {i off : Nat} {x : Value} (h : Rep cell U β (.ref i off) x) : ∃ b, β[i]? = some b ∧ x = .pointer (some ⟨b, off, none⟩) := by
  cases h with
  | datum _ _ h => cases h
  | ref _ _ b h => exact ⟨b, h, rfl⟩
theorem Rep.eptr_inv {cell : Addr → Option Value} {U : Nat → Nat} {β : List Nat} {row : List V} {off : Nat} {x : Value} (h : Rep cell U β (.eptr row off) x) :
    ∃ b base, ∃ c : Nat → Value, x = .pointer (some ⟨b, base + off, none⟩) ∧ (∀ (j : Nat) (v : V), row[j]? = some v → cell ⟨b, base + j, none⟩ = some (c j) ∧ RepD cell U v (c j)) ∧ base + row.length ≤ U b := by
  cases h with
  | datum _ _ h => cases h
  | eptr _ b base _ c h1 h2 => exact ⟨b, base, c, rfl, h1, h2⟩

def chkSrcs : List Src → List Operand → Bool
  | [], [] => true
  | x :: xs, y :: ys => chkSrc x y && chkSrcs xs ys
  | _, _ => false

def chkOpt : Option Src → Option Operand → Bool
  | none, none => true
  | some x, some y => chkSrc x y
  | _, _ => false

def chkConsts : List V → List Value → Bool
  | [], [] => true
  | v :: vs, x :: xs => chkConst v x && chkConsts vs xs
  | _, _ => false

def aggOf (P : Program) (t : TypeId) : Option Bool :=
  match P.underlying t with
  | some (.struct _) | some (.array _ _) => some true
  | some _ => some false
  | none => none

def sizeIs (P : Program) (t : TypeId) (n : Nat) : Bool := match P.info? t with | some i => i.size == n | none => false

def zeroIs (P : Program) (t : TypeId) (zero : List V) : Bool := match P.info? t with
  | some i => match i.zero with
    | some z => chkConsts zero z.cells.toList
    | none => false
  | none => false

def sliceOf (P : Program) (t : TypeId) : Option TypeId := match P.underlying t with | some (.slice e) => some e | _ => none

def isU8 (P : Program) (t : TypeId) : Bool := match P.underlying t with | some (.int .u8) => true | _ => false
def isStr (P : Program) (t : TypeId) : Bool := match P.underlying t with | some .string => true | _ => false

def chkParts (P : Program) (fs : Array Field) : List (Nat × Nat × Src) → List (Nat × Operand) → Bool
  | [], [] => true
  | (off, n, x) :: ps, (i, y) :: qs =>
    (match fs[i]? with
     | some f => f.offset == off && sizeIs P f.type n && chkSrc x y
     | none => false) && chkParts P fs ps qs
  | _, _ => false

def chkElems : List (Nat × Src) → List (Nat × Operand) → Bool
  | [], [] => true
  | (i, x) :: ps, (j, y) :: qs => i == j && chkSrc x y && chkElems ps qs
  | _, _ => false

def chkOp (P : Program) : IOp → Op → Bool
  | .mv _ x, .move y => chkSrc x y
  | .mv _ x, .assign y => chkSrc x y
  | .pick c a b, .pick c' a' b' => chkSrc c c' && chkSrc a a' && chkSrc b b'
  | .alloc _ zero, .alloc t => zeroIs P t zero
  | .box _ x, .box _ y => chkSrc x y
  | .build _ zero parts, .build t ps => match P.underlying t with
    | some (.struct fs) => (fs.toList.mapM (fun f => (P.info? f.type).map fun i => (f.offset, i.size))).isSome && zeroIs P t zero && chkParts P fs parts ps.toList
    | _ => false
  | .bslice sz zero len parts, .buildSlice t len' ps => match P.underlying t with
    | some (.slice e) => zeroIs P e zero && sizeIs P e sz && decide (0 < sz) && len == len' && decide (len * sz ≤ 2 ^ 24) && chkElems parts ps.toList
    | _ => false
  | .load n agg _ x, .load t y => chkSrc x y && aggOf P t == some agg && sizeIs P t n && (agg || n == 1)
  | .store n x v, .store t y z => chkSrc x y && chkSrc v z && sizeIs P t n
  | .nilck x, .nilCheck y => chkSrc x y
  | .bin op x y, .binOp op' _ a b _ => decide (op = op') && chkSrc x a && chkSrc y b
  | .beq neg x y, .binOp op' t a b _ => (match P.underlying t with | some .bool => true | _ => false) && decide (op' = if neg then .neq else .eql) && chkSrc x a && chkSrc y b
  | .un op x, .unOp op' _ y => decide (op = op') && chkSrc x y
  | .conv k x, .convert src dst y => chkSrc x y && (P.underlying src).isSome && (match P.underlying dst with | some (.int k') => decide (k = k') | _ => false)
  | .same x, .convert src dst y => chkSrc x y && src == dst && (match sliceOf P dst with | some e => isU8 P e | none => false)
  | .b2s x, .convert src dst y => chkSrc x y && isStr P dst && (match sliceOf P src with | some e => isU8 P e | none => false)
  | .s2b x, .convert src dst y => chkSrc x y && isStr P src && (match sliceOf P dst with | some e => isU8 P e | none => false)
  | .mkfn f first cap, .makeFunc (.func f') fs cs => f == f' && chkSrcs first fs.toList && chkSrcs cap cs.toList
  | .mkmap, .makeMap t none => (match P.underlying t with | some (.map _ _) => true | _ => false)
  | .mkslice sz bytes zero l c, .makeSlice t l' c' => chkSrc l l' && chkSrc c c' && (match sliceOf P t with
    | some e => zeroIs P e zero && sizeIs P e sz && decide (0 < sz) && (match P.info? e with | some i => i.bytes == bytes | none => false)
    | none => false)
  | .slice sz x lo hi mx, .slice t y lo' hi' mx' => chkSrc x y && chkOpt lo lo' && chkOpt hi hi' && chkOpt mx mx' && (match sliceOf P t with | some e => sizeIs P e sz | none => false)
  | .substr x lo hi, .slice t y lo' hi' none => chkSrc x y && chkOpt lo lo' && chkOpt hi hi' && isStr P t
  | .faddr off x, .fieldAddr t y i => chkSrc x y && (match P.underlying t with
    | some (.struct fs) => match fs[i]? with
      | some f => f.offset == off && !sizeIs P f.type 0 && (P.info? f.type).isSome
      | none => false
    | _ => false)
  | .iaddr sz x i, .indexAddr t y j => chkSrc x y && chkSrc i j && (match sliceOf P t with | some e => sizeIs P e sz && decide (0 < sz) | none => false)
  | .field off n agg x, .field t y i => chkSrc x y && (match P.underlying t with
    | some (.struct fs) => match fs[i]? with
      | some f => f.offset == off && sizeIs P f.type n && aggOf P f.type == some agg && (agg || n == 1)
      | none => false
    | _ => false)
  | .index x i, .index t y j => chkSrc x y && chkSrc i j && isStr P t
  | .extract x i, .extract y j => chkSrc x y && i == j
  | .len x, .call { callee := .builtin .len, args, argTypes } => (match args.toList, argTypes.toList with
    | [y], [t] => chkSrc x y && (sliceOf P t).isSome
    | _, _ => false)
  | .slen x, .call { callee := .builtin .len, args, argTypes } => (match args.toList, argTypes.toList with
    | [y], [t] => chkSrc x y && isStr P t
    | _, _ => false)
  | .append sz bytes s x, .call { callee := .builtin .append, args, argTypes } => (match args.toList, argTypes.toList with
    | [y, z], [t, u] => chkSrc s y && chkSrc x z && (match sliceOf P t with
      | some e => (match P.info? e with
        | some i => i.size == sz && i.bytes == bytes && decide (0 < sz) && (match i.zero with | some zz => zz.cells.size == sz | none => false)
        | none => false)
      | none => false) && (match P.underlying u with | some (.int _) => false | some _ => true | none => false)
    | _, _ => false)
  | .calld f args, .call { callee := .value (.func f'), args := ys, .. } => f == f' && chkSrcs args ys.toList
  | .callv x args, .call { callee := .value y, args := ys, .. } => chkSrc x y && chkSrcs args ys.toList
  | _, _ => false

/-- What one operation has to do. -/
def Does (P : Program) (g : G) (a : Act) (w : World) (o : Oper) (v : V) (s' : St) : Prop :=
  ∃ x w' g', ((execOp a.eval o).run P w = .ok (.value x) w' ∨ ((execOp a.eval o).run P w = .ok .skip w' ∧ x = Go.undef)) ∧
    Fr g w g' w' ∧ Inv g' s' a w' ∧ PlRep g' w' .pbox .pend v x

/-- The value alone is reckoned; nothing moves. -/
theorem Does.pure {P : Program} {g : G} {s : St} {a : Act} {w : World} {o : Oper} {v : V} {x : Value} (hi : Inv g s a w) (hr : (execOp a.eval o).run P w = .ok (.value x) w)
    (hv : PlRep g w .pbox .pend v x) : Does P g a w o v s := ⟨x, w, g, .inl hr, Fr.refl g w, hi, hv⟩

theorem PlRep.calm {g : G} {w : World} {own : Own} {pl : Nat → Own} {v : V} {x : Value} (h : g.Rep w v x) (hc : v.calm) (hg : v.goes = true) : PlRep g w own pl v x := .of_calm h hc hg

theorem calm_int (k : IntKind) (n : Int) : (V.int k n).calm := by intro j u hj rows; simp [V.cells] at hj; obtain ⟨_, rfl⟩ := List.getElem?_eq_some_iff.1 hj; simp
theorem calm_bool (b : Bool) : (V.bool b).calm := by intro j u hj rows; simp [V.cells] at hj; obtain ⟨_, rfl⟩ := List.getElem?_eq_some_iff.1 hj; simp
theorem calm_str (l : List UInt8) : (V.str l).calm := by intro j u hj rows; simp [V.cells] at hj; obtain ⟨_, rfl⟩ := List.getElem?_eq_some_iff.1 hj; simp

section
variable {P : Program} {g : G} {s s' : St} {a : Act} {w : World} {o : Oper} {v : V}

theorem mv_does (hi : Inv g s a w) {take : Bool} {x : Src} {y : Operand} (hc : chkSrc x y = true) (ho : o.op = .move y ∨ o.op = .assign y)
    (h : runOp s (.mv take x) = some (v, s')) : Does P g a w o v s' := by
  have hr : (execOp a.eval o).run P w = .ok (.value (a.eval y)) w := by rcases ho with ho | ho <;> simp [execOp, ho]
  simp only [runOp] at h
  split at h <;> simp at h <;> obtain ⟨rfl, rfl⟩ := h
  · obtain ⟨h1, h2⟩ := hi.take hc .pbox .pend
    exact ⟨_, w, _, .inl hr, Fr.ren g w _, h1, h2⟩
  · exact .pure hi hr (hi.look hc .pbox .pend)

theorem pick_does (hi : Inv g s a w) {c x y : Src} {c' x' y' : Operand} (hc : chkSrc c c' = true) (hx : chkSrc x x' = true) (hy : chkSrc y y' = true) (ho : o.op = .pick c' x' y')
    (h : runOp s (.pick c x y) = some (v, s')) : Does P g a w o v s' := by
  simp only [runOp] at h
  split at h <;> simp at h <;> obtain ⟨rfl, rfl⟩ := h
  · rename_i hv
    have hb := (hi.see hc (by rw [hv]; rfl))
    rw [hv] at hb
    have hb := hb.bool_inv
    exact .pure hi (by simp [execOp, ho, asBool, hb]) (hi.look hx .pbox .pend)
  · rename_i hv
    have hb := (hi.see hc (by rw [hv]; rfl))
    rw [hv] at hb
    have hb := hb.bool_inv
    exact .pure hi (by simp [execOp, ho, asBool, hb]) (hi.look hy .pbox .pend)

theorem vbinInt_run (op : BinOp) (t : TypeId) (k : IntKind) (m n : Int) {v : V} (hs : op ≠ .shl ∧ op ≠ .shr) (h : vbinInt op k m n = some v) :
    ∃ x, (binOp op t (.int k m) (.int k n)).run P w = .ok x w ∧ ((∃ r, v = .int k r ∧ x = .int k r) ∨ ∃ b, v = .bool b ∧ x = .bool b) := by
  cases op <;> simp only [vbinInt] at h
  case shl => exact absurd rfl hs.1
  case shr => exact absurd rfl hs.2
  case add => cases h; exact ⟨_, by rw [binOp_add]; rfl, .inl ⟨_, rfl, rfl⟩⟩
  case sub => cases h; exact ⟨_, by rw [binOp_sub]; rfl, .inl ⟨_, rfl, rfl⟩⟩
  case mul => cases h; exact ⟨_, by rw [binOp_mul]; rfl, .inl ⟨_, rfl, rfl⟩⟩
  case and => cases h; exact ⟨_, by rw [binOp_and]; rfl, .inl ⟨_, rfl, rfl⟩⟩
  case or => cases h; exact ⟨_, by rw [binOp_or]; rfl, .inl ⟨_, rfl, rfl⟩⟩
  case xor => cases h; exact ⟨_, by rw [binOp_xor]; rfl, .inl ⟨_, rfl, rfl⟩⟩
  case andNot => cases h; exact ⟨_, by rw [binOp_andNot]; rfl, .inl ⟨_, rfl, rfl⟩⟩
  case eql => cases h; exact ⟨_, by rw [binOp_eql]; rfl, .inr ⟨_, rfl, rfl⟩⟩
  case neq => cases h; exact ⟨_, by rw [binOp_neq]; rfl, .inr ⟨_, rfl, rfl⟩⟩
  case lss => cases h; exact ⟨_, by rw [binOp_lss]; rfl, .inr ⟨_, rfl, rfl⟩⟩
  case leq => cases h; exact ⟨_, by rw [binOp_leq]; rfl, .inr ⟨_, rfl, rfl⟩⟩
  case gtr => cases h; exact ⟨_, by rw [binOp_gtr]; rfl, .inr ⟨_, rfl, rfl⟩⟩
  case geq => cases h; exact ⟨_, by rw [binOp_geq]; rfl, .inr ⟨_, rfl, rfl⟩⟩
  case quo =>
    split at h
    · simp at h
    · rename_i h0
      cases h
      exact ⟨_, by rw [binOp_quo]; simp only [Op.intDiv, if_neg h0]; rfl, .inl ⟨_, rfl, rfl⟩⟩
  case rem =>
    split at h
    · simp at h
    · rename_i h0
      cases h
      exact ⟨_, by rw [binOp_rem]; simp only [Op.intDiv, if_neg h0]; rfl, .inl ⟨_, rfl, rfl⟩⟩

theorem vshift_run (op : BinOp) (t : TypeId) (k k' : IntKind) (m n : Int) {v : V} (h : vshift op k m n = some v) :
    ∃ r, (binOp op t (.int k m) (.int k' n)).run P w = .ok (.int k r) w ∧ v = .int k r := by
  unfold vshift at h
  split at h
  · simp at h
  · rename_i hn
    cases op <;> simp at h
    · subst h; exact ⟨_, by simp [binOp, Op.shift, hn], rfl⟩
    · subst h; exact ⟨_, by simp [binOp, Op.shift, hn], rfl⟩

theorem byteArray_loop (s : ByteArray) : ∀ (n i : Nat) (r : List UInt8), s.size - i = n → ByteArray.toList.loop s i r = r.reverse ++ s.data.toList.drop i := by
  intro n
  induction n with
  | zero =>
    intro i r h
    unfold ByteArray.toList.loop
    have h1 : ¬ i < s.size := by omega
    have h2 : s.data.toList.length ≤ i := by
      have : s.data.toList.length = s.size := Array.length_toList
      omega
    rw [if_neg h1, List.drop_eq_nil_of_le h2, List.append_nil]
  | succ n ih =>
    intro i r h
    unfold ByteArray.toList.loop
    have hlt : i < s.size := by omega
    have hl : i < s.data.toList.length := by
      have : s.data.toList.length = s.size := Array.length_toList
      omega
    rw [if_pos hlt, ih (i + 1) _ (by omega), List.drop_eq_getElem_cons hl]
    have hg : s.get! i = s.data.toList[i] := by
      have hs : i < s.data.size := by simpa using hl
      unfold ByteArray.get!
      cases s with
      | mk d => simp [show i < d.size from hs]
    rw [hg]
    simp

theorem byteArray_toList (s : ByteArray) : s.toList = s.data.toList := by
  unfold ByteArray.toList
  rw [byteArray_loop s _ 0 [] rfl]
  simp

theorem binOp_string (op : BinOp) (t : TypeId) (x y : ByteArray) : binOp op t (.string x) (.string y) = Op.stringOp op x y := by cases op <;> rfl

theorem vbinStr_run (op : BinOp) (t : TypeId) (x y : ByteArray) {v : V} (h : vbinStr op x.data.toList y.data.toList = some v) :
    ∃ r, (binOp op t (.string x) (.string y)).run P w = .ok r w ∧ ((∃ z : ByteArray, v = .str z.data.toList ∧ r = .string z) ∨ ∃ b, v = .bool b ∧ r = .bool b) := by
  rw [binOp_string]
  cases op <;> simp only [vbinStr] at h
  case add =>
    split at h
    · rename_i hl
      cases h
      refine ⟨.string (x ++ y), ?_, .inl ⟨x ++ y, by simp, rfl⟩⟩
      have hx : x.data.toList.length = x.size := Array.length_toList
      have hy : y.data.toList.length = y.size := Array.length_toList
      rw [hx, hy] at hl
      have : ¬ (((x.size + y.size : Nat) : Int) > IntKind.i64.max) := by rw [IntKind.max_i64]; omega
      simp only [Op.stringOp, if_neg this]
      rfl
    · simp at h
  case eql => cases h; exact ⟨_, rfl, .inr ⟨_, rfl, by rw [byteArray_toList, byteArray_toList]⟩⟩
  case neq => cases h; exact ⟨_, rfl, .inr ⟨_, rfl, by rw [byteArray_toList, byteArray_toList]⟩⟩
  case lss => cases h; exact ⟨_, rfl, .inr ⟨_, rfl, by rw [byteArray_toList, byteArray_toList]⟩⟩
  case leq => cases h; exact ⟨_, rfl, .inr ⟨_, rfl, by rw [byteArray_toList, byteArray_toList]⟩⟩
  case gtr => cases h; exact ⟨_, rfl, .inr ⟨_, rfl, by rw [byteArray_toList, byteArray_toList]⟩⟩
  case geq => cases h; exact ⟨_, rfl, .inr ⟨_, rfl, by rw [byteArray_toList, byteArray_toList]⟩⟩
  all_goals simp at h

theorem bin_does (hi : Inv g s a w) {op : BinOp} {x y : Src} {t t' : TypeId} {x' y' : Operand} (hx : chkSrc x x' = true) (hy : chkSrc y y' = true) (ho : o.op = .binOp op t x' y' t')
    (h : runOp s (.bin op x y) = some (v, s')) : Does P g a w o v s' := by
  simp only [runOp, Option.map_eq_some_iff] at h
  obtain ⟨u, hu, h⟩ := h
  cases h
  unfold vbin at hu
  split at hu
  · rename_i k m k' n h1 h2
    have e1 := hi.see hx (by rw [h1]; rfl); rw [h1] at e1; have e1 := e1.int_inv
    have e2 := hi.see hy (by rw [h2]; rfl); rw [h2] at e2; have e2 := e2.int_inv
    have hg := eqGuard_at_int op t x' y' (.int k' n) k m
    by_cases hs : op = .shl ∨ op = .shr
    · have hu' : vshift op k m n = some v := by rcases hs with rfl | rfl <;> exact hu
      obtain ⟨r, hr, rfl⟩ := vshift_run (P := P) (w := w) op t k k' m n hu'
      exact .pure hi (by simp [execOp, ho, hg, e1, e2, hr]) (.calm (.datum _ _ (.int _ _)) (calm_int _ _) rfl)
    · have hs' : op ≠ .shl ∧ op ≠ .shr := ⟨fun e => hs (.inl e), fun e => hs (.inr e)⟩
      have hu' : (if k = k' then vbinInt op k m n else none) = some v := by
        cases op <;> first | exact hu | exact absurd rfl hs'.1 | exact absurd rfl hs'.2
      split at hu'
      · rename_i hk
        subst hk
        obtain ⟨r, hr, hv⟩ := vbinInt_run (P := P) (w := w) op t k m n hs' hu'
        rcases hv with ⟨r', rfl, rfl⟩ | ⟨b, rfl, rfl⟩
        · exact .pure hi (by simp [execOp, ho, hg, e1, e2, hr]) (.calm (.datum _ _ (.int _ _)) (calm_int _ _) rfl)
        · exact .pure hi (by simp [execOp, ho, hg, e1, e2, hr]) (.calm (.datum _ _ (.bool _)) (calm_bool _) rfl)
      · simp at hu'
  · rename_i l l' h1 h2
    have e1 := hi.see hx (by rw [h1]; rfl); rw [h1] at e1
    obtain ⟨p, e3, rfl⟩ := e1.str_inv
    have e2 := hi.see hy (by rw [h2]; rfl); rw [h2] at e2
    obtain ⟨q, e4, rfl⟩ := e2.str_inv
    have hg := eqGuard_at_string op t x' y' (.string q) p
    obtain ⟨r, hr, hv⟩ := vbinStr_run (P := P) (w := w) op t p q hu
    rcases hv with ⟨z, rfl, rfl⟩ | ⟨b, rfl, rfl⟩
    · exact .pure hi (by simp [execOp, ho, hg, e3, e4, hr]) (.calm (.datum _ _ (.str _ _ rfl)) (calm_str _) rfl)
    · exact .pure hi (by simp [execOp, ho, hg, e3, e4, hr]) (.calm (.datum _ _ (.bool _)) (calm_bool _) rfl)
  · simp at hu

theorem beq_does (hi : Inv g s a w) {neg : Bool} {x y : Src} {t t' : TypeId} {x' y' : Operand} (hx : chkSrc x x' = true) (hy : chkSrc y y' = true) (ht : P.underlying t = some .bool)
    (ho : o.op = .binOp (if neg then .neq else .eql) t x' y' t') (h : runOp s (.beq neg x y) = some (v, s')) : Does P g a w o v s' := by
  simp only [runOp, Option.map_eq_some_iff] at h
  obtain ⟨u, hu, h⟩ := h
  cases h
  unfold vbeq at hu
  split at hu
  · rename_i m n h1 h2
    have e1 := hi.see hx (by rw [h1]; rfl); rw [h1] at e1; have e1 := e1.bool_inv
    have e2 := hi.see hy (by rw [h2]; rfl); rw [h2] at e2; have e2 := e2.bool_inv
    simp at hu
    subst hu
    have hg := fun op => eqGuard_at_bool op t x' y' (.bool n) m
    have hq : (Op.equal t (.bool m) (.bool n)).run P w = .ok (m == n) w := by
      have key : ∀ d, (Op.equalIn (d + 1) t (.bool m) (.bool n)).run P w = .ok (m == n) w := by
        intro d
        simp [Op.equalIn, run_underlying ht]
      exact key 9999
    cases neg
    · exact .pure hi (by simp [execOp, ho, hg, e1, e2, binOp, hq]) (.calm (.datum _ _ (.bool _)) (calm_bool _) rfl)
    · exact .pure hi (by simp [execOp, ho, hg, e1, e2, binOp, hq]) (.calm (.datum _ _ (.bool _)) (calm_bool _) rfl)
  · simp at hu

theorem un_does (hi : Inv g s a w) {op : UnOp} {x : Src} {t : TypeId} {x' : Operand} (hx : chkSrc x x' = true) (ho : o.op = .unOp op t x')
    (h : runOp s (.un op x) = some (v, s')) : Does P g a w o v s' := by
  simp only [runOp, Option.map_eq_some_iff] at h
  obtain ⟨u, hu, h⟩ := h
  cases h
  unfold vun at hu
  split at hu
  · rename_i k n h1
    have e1 := hi.see hx (by rw [h1]; rfl); rw [h1] at e1; have e1 := e1.int_inv
    simp at hu; subst hu
    exact .pure hi (by simp [execOp, ho, e1, Op.unary, Op.intArith]) (.calm (.datum _ _ (.int _ _)) (calm_int _ _) rfl)
  · rename_i k n h1
    have e1 := hi.see hx (by rw [h1]; rfl); rw [h1] at e1; have e1 := e1.int_inv
    simp at hu; subst hu
    exact .pure hi (by simp [execOp, ho, e1, Op.unary, Op.intBits]; rfl) (.calm (.datum _ _ (.int _ _)) (calm_int _ _) rfl)
  · rename_i b h1
    have e1 := hi.see hx (by rw [h1]; rfl); rw [h1] at e1; have e1 := e1.bool_inv
    simp at hu; subst hu
    exact .pure hi (by simp [execOp, ho, e1, Op.unary]) (.calm (.datum _ _ (.bool _)) (calm_bool _) rfl)
  · simp at hu

theorem conv_does (hi : Inv g s a w) {k : IntKind} {x : Src} {src dst : TypeId} {x' : Operand} (hx : chkSrc x x' = true) (hs : (P.underlying src).isSome = true) (hd : P.underlying dst = some (.int k))
    (ho : o.op = .convert src dst x') (h : runOp s (.conv k x) = some (v, s')) : Does P g a w o v s' := by
  simp only [runOp] at h
  split at h
  · rename_i k' n h1
    simp at h
    obtain ⟨rfl, rfl⟩ := h
    have e1 := hi.see hx (by rw [h1]; rfl); rw [h1] at e1; have e1 := e1.int_inv
    obtain ⟨d, hd'⟩ := Option.isSome_iff_exists.mp hs
    exact .pure hi (by simp [execOp, ho, e1, convert, run_underlying hd', run_underlying hd, Conv.intToInt]) (.calm (.datum _ _ (.int _ _)) (calm_int _ _) rfl)
  · simp at h

theorem nilck_does (hi : Inv g s a w) {x : Src} {x' : Operand} (hx : chkSrc x x' = true) (ho : o.op = .nilCheck x') (h : runOp s (.nilck x) = some (v, s')) : Does P g a w o v s' := by
  have hv := hi.look hx .pbox .pend
  simp only [runOp] at h
  split at h
  · rename_i i off h1
    simp at h; obtain ⟨rfl, rfl⟩ := h
    rw [h1] at hv
    obtain ⟨b, _, e1⟩ := hv.1.ref_inv
    exact .pure hi (x := a.eval x') (by simp [execOp, ho, e1]) hv
  · rename_i t off h1
    simp at h; obtain ⟨rfl, rfl⟩ := h
    rw [h1] at hv
    obtain ⟨b, hb, e1⟩ := hv
    exact .pure hi (x := a.eval x') (by simp [execOp, ho, e1]) ⟨b, hb, e1⟩
  · rename_i r off h1
    simp at h; obtain ⟨rfl, rfl⟩ := h
    rw [h1] at hv
    obtain ⟨b, base, _, e1, _⟩ := hv.1.eptr_inv
    exact .pure hi (x := a.eval x') (by simp [execOp, ho, e1]) hv
  · simp at h

end
end Go.Proofs.YtflciaomdlgjpaaGreatDoor.VVE

namespace Go.Proofs.YtflciaomdlgjpaaGreatDoor.VVE

theorem sizeIs_spec {P : Program} {t : TypeId} {n : Nat} (h : sizeIs P t n = true) : ∃ i, P.info? t = some i ∧ i.size = n := by
  unfold sizeIs at h
  split at h
  · rename_i i hi; exact ⟨i, hi, by simpa using h⟩
  · simp at h

theorem run_sizeOf {P : Program} {t : TypeId} {n : Nat} (h : sizeIs P t n = true) (w : World) : (sizeOf t).run P w = .ok n w := by
  obtain ⟨i, hi, rfl⟩ := sizeIs_spec h
  simp [sizeOf, typeInfo, hi]

theorem sliceOf_spec {P : Program} {t e : TypeId} (h : sliceOf P t = some e) : P.underlying t = some (.slice e) := by
  unfold sliceOf at h
  split at h
  · simp at h; subst h; assumption
  · simp at h

theorem isStr_spec {P : Program} {t : TypeId} (h : isStr P t = true) : P.underlying t = some .string := by
  unfold isStr at h
  split at h
  · assumption
  · simp at h

theorem isU8_spec {P : Program} {t : TypeId} (h : isU8 P t = true) : P.underlying t = some (.int .u8) := by
  unfold isU8 at h
  split at h
  · assumption
  · simp at h

theorem elem_of {P : Program} {t e : TypeId} (h : P.underlying t = some (.slice e)) : P.elem t = e := by simp [Program.elem, h]

section
variable {P : Program} {g : G} {s s' : St} {a : Act} {w : World} {o : Oper} {v : V}

theorem run_fieldAt {t : TypeId} {fs : Array Field} {i : Nat} {f : Field} {off : Nat} (hs : P.underlying t = some (.struct fs)) (hf : fs[i]? = some f) (ho : f.offset = off)
    (hz : sizeIs P f.type 0 = false) (hi : (P.info? f.type).isSome = true) (b n : Nat) (w : World) :
    (Instr.fieldAt t (.pointer (some ⟨b, n, none⟩)) i).run P w = .ok (.pointer (some ⟨b, n + off, none⟩)) w := by
  obtain ⟨inf, hinf⟩ := Option.isSome_iff_exists.mp hi
  have hne : inf.size ≠ 0 := by
    intro h0
    simp [sizeIs, hinf, h0] at hz
  simp [Instr.fieldAt, run_underlying hs, hf, Instr.sureAddr, fieldPlace, sizeOf, typeInfo, hinf, hne, Addr.add_lit, ho]

theorem faddr_does (hi : Inv g s a w) {off : Nat} {x : Src} {t : TypeId} {x' : Operand} {i : Nat} {fs : Array Field} {f : Field} (hx : chkSrc x x' = true) (hs : P.underlying t = some (.struct fs))
    (hf : fs[i]? = some f) (hof : f.offset = off) (hz : sizeIs P f.type 0 = false) (hinf : (P.info? f.type).isSome = true)
    (ho : o.op = .fieldAddr t x' i) (h : runOp s (.faddr off x) = some (v, s')) : Does P g a w o v s' := by
  simp only [runOp, Option.map_eq_some_iff] at h
  obtain ⟨u, hu, h⟩ := h
  cases h
  have hv := hi.look hx .pbox .pend
  unfold vfaddr at hu
  split at hu
  · rename_i t' n h1
    simp at hu; subst hu
    rw [h1] at hv
    obtain ⟨b, hb, e1⟩ := hv
    exact .pure hi (by simp [execOp, ho, e1, run_fieldAt hs hf hof hz hinf]) ⟨b, hb, rfl⟩
  · rename_i i' n h1
    simp at hu; subst hu
    rw [h1] at hv
    obtain ⟨b, hb, e1⟩ := hv.1.ref_inv
    refine .pure hi (by simp [execOp, ho, e1, run_fieldAt hs hf hof hz hinf]) (.calm (.ref _ _ b hb) ?_ rfl)
    intro j u hj rows; simp [V.cells] at hj; obtain ⟨_, rfl⟩ := List.getElem?_eq_some_iff.1 hj; simp
  · rename_i row n h1
    simp at hu; subst hu
    rw [h1] at hv
    obtain ⟨b, base, c, e1, h2, h3⟩ := hv.1.eptr_inv
    refine .pure hi (x := .pointer (some ⟨b, base + (n + off), none⟩)) (by simp [execOp, ho, e1, run_fieldAt hs hf hof hz hinf, Nat.add_assoc]) (.calm (.eptr row b base _ c h2 h3) ?_ rfl)
    intro j u hj rows; simp [V.cells] at hj; obtain ⟨_, rfl⟩ := List.getElem?_eq_some_iff.1 hj; simp
  · simp at hu

theorem calm_eptr (row : List V) (n : Nat) : (V.eptr row n).calm := by
  intro j u hj rows; simp [V.cells] at hj; obtain ⟨_, rfl⟩ := List.getElem?_eq_some_iff.1 hj; simp

theorem mul_add_lt {i n sz j : Nat} (hi : i < n) (hj : j < sz) : i * sz + j < n * sz := by
  have : (i + 1) * sz ≤ n * sz := Nat.mul_le_mul_right sz hi
  rw [Nat.add_mul] at this
  omega

theorem mul_add_le {i n sz : Nat} (hi : i < n) : i * sz + sz ≤ n * sz := by
  have : (i + 1) * sz ≤ n * sz := Nat.mul_le_mul_right sz hi
  rw [Nat.add_mul] at this
  omega

theorem iaddr_does (hi : Inv g s a w) {sz : Nat} {x i : Src} {t e : TypeId} {x' i' : Operand} (hx : chkSrc x x' = true) (hxi : chkSrc i i' = true) (ht : sliceOf P t = some e) (hsz : sizeIs P e sz = true)
    (ho : o.op = .indexAddr t x' i') (h : runOp s (.iaddr sz x i) = some (v, s')) : Does P g a w o v s' := by
  simp only [runOp, Option.map_eq_some_iff] at h
  obtain ⟨u, hu, h⟩ := h
  cases h
  unfold viaddr at hu
  split at hu
  · rename_i app rows k n h1 h2
    have e2 := hi.see hxi (by rw [h2]; rfl); rw [h2] at e2; have e2 := e2.int_inv
    have e1 := hi.see hx (by rw [h1]; rfl); rw [h1] at e1; have e1 := e1.sl_inv
    split at hu
    · rename_i hn
      split at hu
      · rename_i row hrow
        split at hu
        · rename_i hl
          simp at hu; subst hu
          have hlt : n.toNat < rows.length := (List.getElem?_eq_some_iff.1 hrow).1
          generalize hxe : a.eval x' = xe at e1
          cases e1 with
          | nil => simp at hlt
          | sl _ _ b off cap sz' c hc hw hcell hd hu' =>
            have hs' : sz' = sz := by rw [← hw _ _ hrow, hl]
            subst hs'
            have ht' : P.underlying t = some (.slice (P.elem t)) := by rw [elem_of (sliceOf_spec ht)]; exact sliceOf_spec ht
            have hr : (Instr.indexAt t (.slice (some ⟨b, off, none⟩) rows.length cap) (.int k n)).run P w = .ok (.pointer (some ⟨b, off + n.toNat * sz', none⟩)) w := by
              rw [run_indexAt_slice w t _ _ _ _ _ ht', if_pos ⟨hn, by omega⟩, elem_of (sliceOf_spec ht), run_sizeOf hsz]
              simp [Addr.add_lit]
            refine .pure hi (x := .pointer (some ⟨b, off + n.toNat * sz' + 0, none⟩)) (by simp [execOp, ho, hxe, e2, hr]) (.calm (.eptr row.cells b (off + n.toNat * sz') 0 (fun j => c (n.toNat * sz' + j)) (fun j v hj => ?_) ?_) (calm_eptr _ _) rfl)
            · have hjl : j < sz' := by rw [← hl]; exact (List.getElem?_eq_some_iff.1 hj).1
              refine ⟨?_, hd _ _ _ _ hrow hj⟩
              rw [Nat.add_assoc]
              exact hcell _ (mul_add_lt hlt hjl)
            · rw [hl]
              have := mul_add_le (sz := sz') hlt
              omega
        · simp at hu
      · simp at hu
    · simp at hu
  · simp at hu

theorem len_does (hi : Inv g s a w) {x : Src} {t : TypeId} {x' : Operand} {args : Array Operand} {ts : Array TypeId} (ha : args.toList = [x']) (hts : ts.toList = [t]) (hx : chkSrc x x' = true) (ht : (sliceOf P t).isSome = true)
    (ho : o.op = .call { callee := .builtin .len, args, argTypes := ts }) (h : runOp s (.len x) = some (v, s')) : Does P g a w o v s' := by
  simp only [runOp, Option.map_eq_some_iff] at h
  obtain ⟨u, hu, h⟩ := h
  cases h
  obtain ⟨e, he⟩ := Option.isSome_iff_exists.mp ht
  have ha' : args = #[x'] := Array.ext' (by simpa using ha)
  have hts' : ts = #[t] := Array.ext' (by simpa using hts)
  subst ha' hts'
  unfold vlen at hu
  split at hu
  · rename_i app rows h1
    simp at hu; subst hu
    have e1 := hi.see hx (by rw [h1]; rfl); rw [h1] at e1; have e1 := e1.sl_inv
    generalize hxe : a.eval x' = xe at e1
    cases e1 with
    | nil => exact .pure hi (by simp [execOp, ho, hxe, resolve, invoke, builtin, Builtin.len_, run_underlying (sliceOf_spec he), goInt]) (.calm (.datum _ _ (.int _ _)) (calm_int _ _) rfl)
    | sl _ _ b off cap sz' c hc hw hcell hd hu' =>
      exact .pure hi (by simp [execOp, ho, hxe, resolve, invoke, builtin, Builtin.len_, run_underlying (sliceOf_spec he), goInt]) (.calm (.datum _ _ (.int _ _)) (calm_int _ _) rfl)
  · simp at hu

theorem slen_does (hi : Inv g s a w) {x : Src} {t : TypeId} {x' : Operand} {args : Array Operand} {ts : Array TypeId} (ha : args.toList = [x']) (hts : ts.toList = [t]) (hx : chkSrc x x' = true) (ht : isStr P t = true)
    (ho : o.op = .call { callee := .builtin .len, args, argTypes := ts }) (h : runOp s (.slen x) = some (v, s')) : Does P g a w o v s' := by
  simp only [runOp, Option.map_eq_some_iff] at h
  obtain ⟨u, hu, h⟩ := h
  cases h
  have ha' : args = #[x'] := Array.ext' (by simpa using ha)
  have hts' : ts = #[t] := Array.ext' (by simpa using hts)
  subst ha' hts'
  unfold vslen at hu
  split at hu
  · rename_i l h1
    simp at hu; subst hu
    have e1 := hi.see hx (by rw [h1]; rfl); rw [h1] at e1
    obtain ⟨z, e3, rfl⟩ := e1.str_inv
    refine .pure hi (x := .int .i64 z.size) (by simp [execOp, ho, e3, resolve, invoke, builtin, Builtin.len_, run_underlying (isStr_spec ht), goInt]) (.calm (.datum _ _ ?_) (calm_int _ _) rfl)
    rw [show z.data.toList.length = z.size from Array.length_toList]
    exact .int _ _
  · simp at hu

theorem index_does (hi : Inv g s a w) {x i : Src} {t : TypeId} {x' i' : Operand} (hx : chkSrc x x' = true) (hxi : chkSrc i i' = true) (ht : isStr P t = true)
    (ho : o.op = .index t x' i') (h : runOp s (.index x i) = some (v, s')) : Does P g a w o v s' := by
  simp only [runOp, Option.map_eq_some_iff] at h
  obtain ⟨u, hu, h⟩ := h
  cases h
  unfold vindex at hu
  split at hu
  · rename_i l k n h1 h2
    have e2 := hi.see hxi (by rw [h2]; rfl); rw [h2] at e2; have e2 := e2.int_inv
    have e1 := hi.see hx (by rw [h1]; rfl); rw [h1] at e1
    obtain ⟨z, e3, rfl⟩ := e1.str_inv
    split at hu
    · rename_i hn
      simp only [Option.map_eq_some_iff] at hu
      obtain ⟨b, hb, rfl⟩ := hu
      have hlt : n.toNat < z.size := by
        have := (List.getElem?_eq_some_iff.1 hb).1
        rwa [show z.data.toList.length = z.size from Array.length_toList] at this
      have hz : z[n.toNat]? = some b := by
        rw [getElem?_pos z n.toNat hlt]
        have := (List.getElem?_eq_some_iff.1 hb).2
        rw [← this]
        rfl
      have hn' : n.toNat < z.size := hlt
      exact .pure hi (by simp [execOp, ho, e2, e3, Instr.index, asIntOf, run_underlying (isStr_spec ht), hn, hz]) (.calm (.datum _ _ (.int _ _)) (calm_int _ _) rfl)
    · simp at hu
  · simp at hu

theorem extract_does (hi : Inv g s a w) {x : Src} {i : Nat} {x' : Operand} (hx : chkSrc x x' = true) (ho : o.op = .extract x' i) (h : runOp s (.extract x i) = some (v, s')) : Does P g a w o v s' := by
  simp only [runOp] at h
  split at h
  · rename_i vs h1
    simp only [Option.map_eq_some_iff] at h
    obtain ⟨u, hu, h⟩ := h
    cases h
    have e1 := hi.see hx (by rw [h1]; rfl); rw [h1] at e1
    obtain ⟨xs, e3, hl, hr⟩ := e1.tup_inv
    have hlt : i < vs.length := (List.getElem?_eq_some_iff.1 hu).1
    obtain ⟨xi, hxi⟩ : ∃ xi, xs[i]? = some xi := ⟨_, List.getElem?_eq_getElem (by omega)⟩
    have hru := hr i u hu
    rw [show xs.getD i Go.undef = xi by rw [List.getD_eq_getElem?_getD, hxi]; rfl] at hru
    by_cases hb : ∃ cs, u = .box cs
    · obtain ⟨cs, rfl⟩ := hb
      cases hru with | datum _ _ h => cases h
    · have hb' : ∀ cs, u ≠ .box cs := fun cs hcs => hb ⟨cs, hcs⟩
      have hg : u.share2.goes = true := by
        cases u <;> first | rfl | exact absurd rfl (hb' _) | (cases hru with | datum _ _ h => cases h)
      exact .pure hi (by simp [execOp, ho, e3, Instr.extract, hxi]) (.calm hru.share2 (V.calm_share2 u hb') hg)
  · simp at h

/- CUTS -/

def BoundOK (v : Option Value) (dflt most r : Nat) : Prop := (v = none ∧ r = dflt) ∨ ∃ k, v = some (.int k (r : Int)) ∧ r ≤ most

theorem run_sliceBound_nat (k : IntKind) (r y : Nat) (code : BoundsCode) (h : r ≤ y) : (Instr.sliceBound (.int k (r : Int)) y code).run P w = .ok r w := by
  have : (r : Int) ≤ (y : Int) := by omega
  simp [Instr.sliceBound, asIntOf, this]

theorem run_sliceBounds (isSlice : Bool) {len cap l h m : Nat} {lo hi mx : Option Value} (hm : BoundOK mx cap cap m) (hmx : mx ≠ none → hi ≠ none) (hh : BoundOK hi len m h) (hl : BoundOK lo 0 h l) :
    (Instr.sliceBounds isSlice len cap lo hi mx).run P w = .ok (l, h, m) w := by
  have e1 := run_sliceBound_nat (P := P) (w := w)
  rcases hm with ⟨rfl, rfl⟩ | ⟨km, rfl, hm1⟩
  · rcases hh with ⟨rfl, rfl⟩ | ⟨kh, rfl, hh1⟩ <;> rcases hl with ⟨rfl, rfl⟩ | ⟨kl, rfl, hl1⟩ <;> simp [Instr.sliceBounds, e1, *]
  · rcases hh with ⟨rfl, rfl⟩ | ⟨kh, rfl, hh1⟩
    · exact absurd rfl (hmx (by simp))
    · rcases hl with ⟨rfl, rfl⟩ | ⟨kl, rfl, hl1⟩ <;> simp [Instr.sliceBounds, e1, *]

theorem bound_spec {v : V} {m k : Nat} (h : bound v m = some k) : ∃ kk, v = .int kk (k : Int) ∧ k ≤ m := by
  unfold bound at h
  split at h
  · rename_i kk i
    split at h
    · rename_i hc
      simp at h
      exact ⟨kk, by rw [← h, Int.toNat_of_nonneg hc.1], by omega⟩
    · simp at h
  · simp at h

theorem Inv.bound (hi : Inv g s a w) {x : Src} {x' : Operand} (hc : chkSrc x x' = true) {m k : Nat} (h : VVE.bound (VVE.val s.env x) m = some k) (dflt : Nat) : BoundOK (some (a.eval x')) dflt m k := by
  obtain ⟨kk, h1, h2⟩ := bound_spec h
  have e := hi.see hc (by rw [h1]; rfl)
  rw [h1] at e
  exact .inr ⟨kk, by rw [e.int_inv], h2⟩

theorem Inv.optBound (hi : Inv g s a w) {x : Option Src} {x' : Option Operand} (hc : chkOpt x x' = true) {d m k : Nat} (h : VVE.optBound (x.map (VVE.val s.env)) d m = some k) : BoundOK (x'.map a.eval) d m k := by
  unfold chkOpt at hc
  split at hc
  · simp [VVE.optBound] at h
    exact .inl ⟨rfl, h.symm⟩
  · exact hi.bound hc h d
  · simp at hc

theorem BoundOK.le {v : Option Value} {d m r : Nat} (h : BoundOK v d m r) (hd : d ≤ m) : r ≤ m := by
  rcases h with ⟨_, rfl⟩ | ⟨k, _, h2⟩ <;> omega

theorem BoundOK.more {v : Option Value} {d m m' r : Nat} (h : BoundOK v d m r) (hm : m ≤ m') : BoundOK v d m' r := by
  rcases h with ⟨h1, h2⟩ | ⟨k, h1, h2⟩
  · exact .inl ⟨h1, h2⟩
  · exact .inr ⟨k, h1, by omega⟩

theorem substr_does (hi : Inv g s a w) {x : Src} {lo hi' : Option Src} {t : TypeId} {x' : Operand} {lo' hh : Option Operand} (hx : chkSrc x x' = true) (hl : chkOpt lo lo' = true) (hh' : chkOpt hi' hh = true) (ht : isStr P t = true)
    (ho : o.op = .slice t x' lo' hh none) (h : runOp s (.substr x lo hi') = some (v, s')) : Does P g a w o v s' := by
  simp only [runOp, Option.map_eq_some_iff] at h
  obtain ⟨u, hu, h⟩ := h
  cases h
  unfold vsubstr at hu
  split at hu
  · rename_i l h1
    have e1 := hi.see hx (by rw [h1]; rfl); rw [h1] at e1
    obtain ⟨z, e3, rfl⟩ := e1.str_inv
    have hz : z.data.toList.length = z.size := Array.length_toList
    simp only [Option.bind_eq_some_iff, Option.some.injEq] at hu
    obtain ⟨k, hk, k', hk', rfl⟩ := hu
    rw [hz] at hk
    have b1 := hi.optBound hh' hk
    have b2 := hi.optBound hl hk'
    have hr : (Instr.sliceAt t (.string z) (lo'.map a.eval) (hh.map a.eval) none).run P w = .ok (.string (z.extract k' k)) w := by
      rw [run_sliceAt_string w t _ _ _ _ (isStr_spec ht)]
      have := run_sliceBounds (P := P) (w := w) false (mx := none) (.inl ⟨rfl, rfl⟩) (by simp) b1 b2
      simp [Instr.slice, run_underlying (isStr_spec ht), this]
    refine .pure hi (x := .string (z.extract k' k)) (by simp [execOp, ho, e3, hr]) (.calm (.datum _ _ (.str _ _ ?_)) (calm_str _) rfl)
    have hle := b1.le (Nat.le_refl _)
    have hle2 := b2.le (Nat.zero_le _)
    simp [List.drop_take]
  · simp at hu

theorem calm_slf (rows : List V) : (V.sl false rows).calm := by
  intro j u hj r; simp [V.cells] at hj; obtain ⟨_, rfl⟩ := List.getElem?_eq_some_iff.1 hj; simp

theorem RepD.wide {cell : Addr → Option Value} {U : Nat → Nat} {app : Bool} {rows : List V} {x : Value} (hr : RepD cell U (.sl app rows) x) {sz : Nat} (h : rowsWide sz (.sl app rows)) :
    ∀ (i : Nat) (row : V), rows[i]? = some row → row.cells.length = sz := by
  intro i row hi
  cases hr with
  | nil => simp at hi
  | sl _ _ b off cap sz' c hc hw hcell hd hu =>
    cases rows with
    | nil => simp at hi
    | cons r rs =>
      have h : r.cells.length = sz := h
      rw [hw i row hi, ← hw 0 r rfl, h]

theorem cut_repD {cell : Addr → Option Value} {U : Nat → Nat} {app : Bool} {rows : List V} {x : Value} (hr : RepD cell U (.sl app rows) x) {l h m sz : Nat} (hlh : l ≤ h) (hh : h ≤ rows.length) (hhm : h ≤ m)
    (hsz : ∀ (i : Nat) (row : V), rows[i]? = some row → row.cells.length = sz) (app' : Bool) :
    (∃ cap, x = .slice none 0 0 ∧ cap = 0 ∧ rows = []) ∨ ∃ b off cap, x = .slice (some ⟨b, off, none⟩) rows.length cap ∧ rows.length ≤ cap ∧ (m ≤ cap → RepD cell U (.sl app' ((rows.take h).drop l)) (sliced (some ⟨b, off, none⟩) l h m sz)) := by
  cases hr with
  | nil => exact .inl ⟨0, rfl, rfl, rfl⟩
  | sl _ _ b off cap sz' c hc hw hcell hd hu =>
    refine .inr ⟨b, off, cap, rfl, hc, fun hm => ?_⟩
    have hlen : ((rows.take h).drop l).length = h - l := by simp; omega
    by_cases hrows : rows = []
    · subst hrows
      simp at hh
      subst hh
      have : l = 0 := by omega
      subst this
      simp only [sliced, List.take_nil, List.drop_nil]
      have hoff : ∃ off', (if m = 0 then some (⟨b, off, none⟩ : Addr) else Option.map (fun q : Addr => q.add (0 * sz)) (some ⟨b, off, none⟩)) = some ⟨b, off', none⟩ ∧ off' = off := by
        by_cases hm0 : m = 0
        · exact ⟨off, by simp [hm0], rfl⟩
        · exact ⟨off, by simp [hm0, Addr.add_lit], rfl⟩
      obtain ⟨off', ho, rfl⟩ := hoff
      rw [ho]
      exact .sl app' [] b off' (m - 0) sz c (by simp) (by simp) (by simp) (by simp) (by simpa using hu)
    · have hs : sz' = sz := by
        cases rows with
        | nil => exact absurd rfl hrows
        | cons r rs => rw [← hw 0 r rfl, hsz 0 r rfl]
      subst hs
      simp only [sliced]
      have hoff : ∃ off', (if m = l then some (⟨b, off, none⟩ : Addr) else Option.map (fun q : Addr => q.add (l * sz')) (some ⟨b, off, none⟩)) = some ⟨b, off', none⟩ ∧ ((off' = off ∧ l = h) ∨ off' = off + l * sz') := by
        by_cases hml : m = l
        · exact ⟨off, by simp [hml], .inl ⟨rfl, by omega⟩⟩
        · exact ⟨off + l * sz', by simp [hml, Addr.add_lit], .inr rfl⟩
      obtain ⟨off', ho, hcase⟩ := hoff
      rw [ho, ← hlen]
      have hget : ∀ (i : Nat) (row : V), ((rows.take h).drop l)[i]? = some row → rows[l + i]? = some row ∧ l + i < h := by
        intro i row hi
        rw [List.getElem?_drop, List.getElem?_take] at hi
        split at hi
        · exact ⟨hi, by assumption⟩
        · simp at hi
      refine .sl app' _ b off' (m - l) sz' (fun j => c (l * sz' + j)) (by rw [hlen]; omega) (fun i row hi => hw _ _ (hget i row hi).1) (fun j hj => ?_) (fun i row j v hi hj => ?_) ?_
      · rw [hlen] at hj
        rcases hcase with ⟨_, rfl⟩ | rfl
        · simp at hj
        · rw [Nat.add_assoc]
          refine hcell _ ?_
          have h1 : l * sz' + (h - l) * sz' = h * sz' := by rw [← Nat.add_mul]; congr 1; omega
          have h2 : h * sz' ≤ rows.length * sz' := Nat.mul_le_mul_right _ hh
          omega
      · obtain ⟨h1, h2⟩ := hget i row hi
        have := hd (l + i) row j v h1 hj
        rwa [Nat.add_mul, Nat.add_assoc] at this
      · rw [hlen]
        rcases hcase with ⟨rfl, rfl⟩ | rfl
        · simp; omega
        · have h1 : l * sz' + (h - l) * sz' = h * sz' := by rw [← Nat.add_mul]; congr 1; omega
          have h2 : h * sz' ≤ rows.length * sz' := Nat.mul_le_mul_right _ hh
          omega

theorem PlRep.sl {g : G} {w : World} {own : Own} {pl : Nat → Own} {app : Bool} {rows : List V} {x : Value} (h : RepD w.cell? g.U (.sl app rows) x)
    (ha : app = true → AppAt g w (pl 0) (.sl true rows) x) (hx : x.cells = #[x]) : PlRep g w own pl (.sl app rows) x := by
  refine (PlRep.solid rfl).2 ⟨.datum _ _ h, fun j u hj => ?_⟩
  simp only [V.cells, List.getElem?_singleton] at hj
  split at hj
  · rename_i h0
    subst h0
    simp at hj
    subst hj
    rw [hx]
    cases app with
    | true => exact ha rfl
    | false => exact AppAt.calm (by simp)
  · simp at hj

theorem AppAt.none {g : G} {w : World} {p : Own} {rows : List V} {base : Option Addr} {len cap : Nat} (h : rows = []) (hc : cap = 0) : AppAt g w p (.sl true rows) (.slice base len cap) := by
  intro rows' hv base' len' cap' hx
  cases hv; cases hx
  exact .inl ⟨h, hc⟩

theorem PlRep.slt {g : G} {w : World} {own : Own} {pl : Nat → Own} {rows : List V} {base : Option Addr} {len cap : Nat} (h : RepD w.cell? g.U (.sl false rows) (.slice base len cap)) (hl : len = rows.length) (hc : cap = rows.length) :
    PlRep g w own pl (.slt rows) (.slice base len cap) := by
  subst hl hc
  refine (PlRep.solid rfl).2 ⟨.datum _ _ (.slt rows base h), fun j u hj => AppAt.calm ?_⟩
  simp only [V.cells, List.getElem?_singleton] at hj
  split at hj <;> simp at hj
  subst hj
  simp

theorem slice_does (hi : Inv g s a w) {sz : Nat} {x : Src} {lo hi' mx : Option Src} {t e : TypeId} {x' : Operand} {lo' hh mx' : Option Operand} (hx : chkSrc x x' = true) (hl : chkOpt lo lo' = true) (hh' : chkOpt hi' hh = true) (hm' : chkOpt mx mx' = true)
    (ht : sliceOf P t = some e) (hsz : sizeIs P e sz = true) (ho : o.op = .slice t x' lo' hh mx') (h : runOp s (.slice sz x lo hi' mx) = some (v, s')) : Does P g a w o v s' := by
  simp only [runOp] at h
  split at h
  · rename_i hall
    simp only [Option.map_eq_some_iff] at h
    obtain ⟨u, hu, h⟩ := h
    cases h
    have ht' : P.underlying t = some (.slice (P.elem t)) := by rw [elem_of (sliceOf_spec ht)]; exact sliceOf_spec ht
    have he : P.elem t = e := elem_of (sliceOf_spec ht)
    unfold vslice at hu
    split at hu
    · rename_i app rows h1
      have e1 := hi.see hx (by rw [h1]; rfl); rw [h1] at e1; have e1 := e1.sl_inv
      rw [h1] at hall
      have hw := e1.wide hall
      split at hu
      · rename_i m hm
        simp only [Option.bind_eq_some_iff, Option.some.injEq] at hu
        obtain ⟨k, hk, h', ⟨hv, hhv, hh2⟩, l, hl2, rfl⟩ := hu
        have b0 : BoundOK (mx'.map a.eval) k rows.length k := by
          refine hi.optBound hm' (d := k) ?_
          rw [hm]
          exact hk
        have b1 : BoundOK (hh.map a.eval) h' k h' := by
          refine hi.optBound hh' (d := h') ?_
          rw [hhv]
          exact hh2
        have b2 := hi.optBound hl hl2
        have hkl := b0.le (bound_spec hk).choose_spec.2
        have hle := b1.le (bound_spec hh2).choose_spec.2
        have hle2 := b2.le (Nat.zero_le _)
        have hmx : mx'.map a.eval ≠ none := by
          cases mx with
          | none => simp at hm
          | some _ => cases mx' with
            | none => simp [chkOpt] at hm'
            | some _ => simp
        have hhn : hh.map a.eval ≠ none := by
          cases hi' with
          | none => simp at hhv
          | some _ => cases hh with
            | none => simp [chkOpt] at hh'
            | some _ => simp
        have b0' : ∀ cap, rows.length ≤ cap → BoundOK (mx'.map a.eval) cap cap k := by
          intro cap hc
          rcases b0 with ⟨h0, _⟩ | ⟨kk, h1, h2⟩
          · exact absurd h0 hmx
          · exact .inr ⟨kk, h1, by omega⟩
        have b1' : ∀ len, BoundOK (hh.map a.eval) len k h' := by
          intro len
          rcases b1 with ⟨h0, _⟩ | ⟨kk, h1, h2⟩
          · exact absurd h0 hhn
          · exact .inr ⟨kk, h1, h2⟩
        generalize hxe : a.eval x' = xe at e1
        have hlen : ((rows.take h').drop l).length = h' - l := by simp; omega
        rcases cut_repD (m := k) e1 hle2 (by omega) hle hw false with ⟨_, rfl, _, rfl⟩ | ⟨b, off, cap, rfl, hcap, hrep⟩
        · have hvv : (if k = h' then V.slt (([] : List V).take h' |>.drop l) else V.sl false (([] : List V).take h' |>.drop l)) = if k = h' then V.slt [] else V.sl false [] := by simp
          rw [hvv]
          simp at hkl
          subst hkl
          have : h' = 0 := by omega
          subst this
          have : l = 0 := by omega
          subst this
          have hb := run_sliceBounds (P := P) (w := w) true (len := 0) (cap := 0) (b0' 0 (by simp)) (fun _ => hhn) (b1' 0) b2
          refine .pure hi (x := .slice none 0 0) ?_ (by rw [if_pos rfl]; exact PlRep.slt (.nil _) rfl rfl)
          simp only [execOp, ho, Sem.run_bind, hxe]
          rw [run_sliceAt_slice w t _ _ _ _ ht', run_slice_any w t _ _ _ ht', hb]
          simp [he, run_sizeOf hsz, sliced]
        · have hb := run_sliceBounds (P := P) (w := w) true (len := rows.length) (cap := cap) (b0' cap hcap) (fun _ => hhn) (b1' _) b2
          refine .pure hi (x := sliced (some ⟨b, off, none⟩) l h' k sz) ?_ ?_
          · simp only [execOp, ho, Sem.run_bind, hxe]
            rw [run_sliceAt_slice w t _ _ _ _ ht', run_slice_any w t _ _ _ ht', hb]
            simp [he, run_sizeOf hsz]
          · have h0 := hrep (by omega)
            split
            · rename_i hkh
              exact PlRep.slt h0 (by rw [hlen]) (by rw [hlen, hkh])
            · exact .calm (.datum _ _ h0) (calm_slf _) rfl
      · rename_i hm
        simp only [Option.bind_eq_some_iff, Option.some.injEq] at hu
        obtain ⟨h', hh2, l, hl2, rfl⟩ := hu
        have b1 := hi.optBound hh' hh2
        have b2 := hi.optBound hl hl2
        have hle := b1.le (Nat.le_refl _)
        have hle2 := b2.le (Nat.zero_le _)
        have hmn : mx' = none := by
          cases mx with
          | none => cases mx' with
            | none => rfl
            | some _ => simp [chkOpt] at hm'
          | some _ => simp at hm
        subst hmn
        generalize hxe : a.eval x' = xe at e1
        rcases cut_repD (m := rows.length) e1 hle2 hle hle hw false with ⟨_, rfl, _, rfl⟩ | ⟨b, off, cap, rfl, hcap, _⟩
        · simp at hle
          subst hle
          have : l = 0 := by omega
          subst this
          have hb := run_sliceBounds (P := P) (w := w) true (len := 0) (cap := 0) (mx := none) (.inl ⟨rfl, rfl⟩) (by simp) b1 b2
          refine .pure hi (x := .slice none 0 0) ?_ (.calm (.datum _ _ (.nil _)) (calm_slf _) rfl)
          simp only [execOp, ho, Sem.run_bind, hxe, Option.map_none]
          rw [run_sliceAt_slice w t _ _ _ _ ht', run_slice_any w t _ _ _ ht', hb]
          simp [he, run_sizeOf hsz, sliced]
        · have hb := run_sliceBounds (P := P) (w := w) true (len := rows.length) (cap := cap) (mx := none) (.inl ⟨rfl, rfl⟩) (by simp) (b1.more hcap) b2
          rcases cut_repD (m := cap) e1 hle2 hle (by omega) hw false with ⟨_, h0, _⟩ | ⟨b', off', cap', h0, _, hrep⟩
          · cases h0
          · cases h0
            refine .pure hi (x := sliced (some ⟨b, off, none⟩) l h' cap sz) ?_ (.calm (.datum _ _ (hrep (Nat.le_refl _))) (calm_slf _) rfl)
            simp only [execOp, ho, Sem.run_bind, hxe, Option.map_none]
            rw [run_sliceAt_slice w t _ _ _ _ ht', run_slice_any w t _ _ _ ht', hb]
            simp [he, run_sizeOf hsz]
    · simp at hu
  · simp at h

end
end Go.Proofs.YtflciaomdlgjpaaGreatDoor.VVE

namespace Go.Proofs.YtflciaomdlgjpaaGreatDoor.VVE

theorem splice_get {cs : List V} {off : Nat} {new : List V} (h : off + new.length ≤ cs.length) (j : Nat) :
    (splice cs off new)[j]? = if off ≤ j ∧ j < off + new.length then new[j - off]? else cs[j]? := by
  unfold splice
  by_cases h1 : j < off
  · rw [if_neg (by omega), List.getElem?_append_left (by simp; omega), List.getElem?_append_left (by simp; omega), List.getElem?_take, if_pos h1]
  · have htl : (cs.take off).length = off := by simp; omega
    by_cases h2 : j < off + new.length
    · rw [if_pos ⟨by omega, h2⟩, List.getElem?_append_left (by simp; omega), List.getElem?_append_right (by omega), htl]
    · rw [if_neg (by omega), List.getElem?_append_right (by simp; omega)]
      simp only [List.length_append, htl, List.getElem?_drop]
      congr 1
      omega

theorem splice_length {cs : List V} {off : Nat} {new : List V} (h : off + new.length ≤ cs.length) : (splice cs off new).length = cs.length := by
  unfold splice
  simp
  omega

theorem cut_spec {cs : List V} {off n : Nat} {r : List V} (h : cut cs off n = some r) : off + n ≤ cs.length ∧ r.length = n ∧ ∀ j, j < n → r[j]? = cs[off + j]? := by
  unfold cut at h
  split at h
  · rename_i hl
    simp at h
    subst h
    refine ⟨hl, by simp; omega, fun j hj => ?_⟩
    rw [List.getElem?_take, if_pos hj, List.getElem?_drop]
  · simp at h

theorem getD_some {c : Array Value} {i : Nat} (h : i < c.size) : c[i]? = some (c.getD i Go.undef) := by
  rw [Array.getD_eq_getD_getElem?, Array.getElem?_eq_getElem h]
  rfl

theorem leaf_calm {v : V} (hl : v.leaf = true) (h : ∀ rows, v ≠ .sl true rows) : v.calm := by
  intro j u hj rows
  have hc : v.cells = [v] := by cases v <;> first | rfl | simp [V.leaf] at hl
  rw [hc] at hj
  obtain ⟨_, rfl⟩ := List.getElem?_eq_some_iff.1 hj
  simpa using h rows

section
variable {P : Program} {g : G} {s s' : St} {a : Act} {w : World} {o : Oper} {v : V}

/-- What lies under an address. -/
theorem Inv.under (hi : Inv g s a w) {x : Src} {x' : Operand} (hx : chkSrc x x' = true) {n : Nat} {cs : List V} (h : loadAt s (VVE.val s.env x) n = some cs) :
    cs.length = n ∧ ∃ b off, a.eval x' = .pointer (some ⟨b, off, none⟩) ∧ ∃ c : Nat → Value, (∀ j, j < n → w.cell? ⟨b, off + j, none⟩ = some (c j)) ∧ ∀ (j : Nat) (u : V), cs[j]? = some u → g.Rep w u (c j) := by
  obtain ⟨own, pl, hv, _⟩ := hi.val hx
  unfold loadAt at h
  split at h
  · rename_i t off h1
    rw [h1] at hv
    obtain ⟨b, hb, e⟩ := hv
    split at h
    · rename_i cells hcells
      have ht := hi.env t
      rw [hcells] at ht
      obtain ⟨b', hlam, _⟩ := ht.2 cells rfl
      obtain ⟨b'', hx'', hO, hU, c, ee, fr, hh, hs, hf, hc⟩ := ht.1
      obtain ⟨b3, hl3, he3⟩ := ht.2 cells rfl
      have hbb : b'' = b := by
        rw [hx''] at he3
        rw [hl3] at hb
        cases hb
        cases he3
        rfl
      subst hbb
      obtain ⟨h2, h3, h4⟩ := cut_spec h
      refine ⟨h3, b'', off, e, fun j => c.getD (off + j) Go.undef, fun j hj => ?_, fun j u hj => ?_⟩
      · rw [cell_of hh]
        exact getD_some (by omega)
      · have hjn : j < n := by rw [← h3]; exact (List.getElem?_eq_some_iff.1 hj).1
        rw [h4 j hjn] at hj
        exact (hc _ _ hj).2.1
    · simp at h
  · rename_i i off h1
    rw [h1] at hv
    obtain ⟨b, hb, e⟩ := hv.1.ref_inv
    split at h
    · rename_i cells hcells
      obtain ⟨b', hb', hO, ⟨hU, c, ee, fr, hh, hs, hf, hc⟩, hu⟩ := hi.heap.rep i _ hcells
      have hbb : b' = b := by rw [hb] at hb'; cases hb'; rfl
      subst hbb
      obtain ⟨h2, h3, h4⟩ := cut_spec h
      refine ⟨h3, b', off, e, fun j => c.getD (off + j) Go.undef, fun j hj => ?_, fun j u hj => ?_⟩
      · rw [cell_of hh]
        exact getD_some (by omega)
      · have hjn : j < n := by rw [← h3]; exact (List.getElem?_eq_some_iff.1 hj).1
        rw [h4 j hjn] at hj
        exact (hc _ _ hj).2.1
    · simp at h
  · rename_i row off h1
    rw [h1] at hv
    obtain ⟨b, base, c, e, h5, h6⟩ := hv.1.eptr_inv
    obtain ⟨h2, h3, h4⟩ := cut_spec h
    refine ⟨h3, b, base + off, e, fun j => c (off + j), fun j hj => ?_, fun j u hj => ?_⟩
    · rw [Nat.add_assoc]
      exact (h5 (off + j) _ (List.getElem?_eq_getElem (by omega))).1
    · have hjn : j < n := by rw [← h3]; exact (List.getElem?_eq_some_iff.1 hj).1
      rw [h4 j hjn] at hj
      exact .datum _ _ (h5 _ _ hj).2
  · simp at h

theorem aggOf_true {t : TypeId} (h : aggOf P t = some true) (w : World) : (isAgg t).run P w = .ok true w := by
  unfold aggOf at h
  split at h
  · rename_i fs hf; simp [isAgg, run_underlying hf]
  · rename_i n e hf; simp [isAgg, run_underlying hf]
  · simp at h
  · simp at h

theorem aggOf_false {t : TypeId} (h : aggOf P t = some false) (w : World) : (isAgg t).run P w = .ok false w := by
  unfold aggOf at h
  split at h
  · simp at h
  · simp at h
  · rename_i d h1 h2 hd
    simp only [isAgg, Sem.run_bind, run_underlying hd, Result.andThen_ok]
    cases d <;> first | rfl | exact absurd rfl (h1 _) | exact absurd rfl (h2 _ _)
  · simp at h

theorem run_loadAt {t : TypeId} {agg : Bool} {n : Nat} (ha : aggOf P t = some agg) (hs : sizeIs P t n = true) (hn : agg = true ∨ n = 1) {b off : Nat} {c : Nat → Value}
    (hc : ∀ j, j < n → w.cell? ⟨b, off + j, none⟩ = some (c j)) :
    (Instr.loadAt t (.pointer (some ⟨b, off, none⟩))).run P w = .ok (if agg then .agg ((List.range n).map c).toArray else c 0) w := by
  cases agg with
  | true =>
    have := run_loadCells (P := P) w ⟨b, off, none⟩ n c (fun j hj => by rw [Addr.add_lit]; exact hc j hj)
    simp [Instr.loadAt, Instr.sureAddr, loadVar, aggOf_true ha, run_sizeOf hs, this]
  | false =>
    have hn : n = 1 := by simpa using hn
    subst hn
    have := hc 0 (by omega)
    simp at this
    simp [Instr.loadAt, Instr.sureAddr, loadVar, aggOf_false ha, this]

theorem range_getD {n : Nat} {c : Nat → Value} {j : Nat} (h : j < n) : ((List.range n).map c).getD j Go.undef = c j := by
  rw [List.getD_eq_getElem?_getD, List.getElem?_map, List.getElem?_range h]
  rfl

theorem rep_ofCells {cs : List V} {agg : Bool} {u : V} (h : ofCells agg cs = some u) {n : Nat} (hn : cs.length = n) {c : Nat → Value} (hr : ∀ (j : Nat) (u : V), cs[j]? = some u → g.Rep w u (c j)) :
    g.Rep w u (if agg then .agg ((List.range n).map c).toArray else c 0) := by
  unfold ofCells at h
  cases agg with
  | true =>
    simp at h
    subst h
    exact .agg cs _ (by simp [hn]) (fun j v hj => by
      have hjn : j < n := by rw [← hn]; exact (List.getElem?_eq_some_iff.1 hj).1
      rw [range_getD hjn]
      exact hr j v hj)
  | false =>
    simp only [Bool.false_eq_true, if_false] at h ⊢
    split at h
    · split at h
      · simp at h
        subst h
        exact hr 0 _ rfl
      · simp at h
    · simp at h

theorem rep_not_box {cell : Addr → Option Value} {U : Nat → Nat} {β : List Nat} {x : Value} : ∀ v : V, Rep cell U β v x → v.goes = true := by
  intro v h
  cases v <;> first | rfl | (cases h with | datum _ _ h => cases h)

theorem ofCells_calm {cs : List V} {agg : Bool} {u : V} (h : ofCells agg (cs.map V.share1) = some u) : u.calm := by
  unfold ofCells at h
  cases agg with
  | true =>
    simp at h
    subst h
    intro j v hj rows
    exact calm_mapShare1 cs j v (by simpa [V.cells] using hj) rows
  | false =>
    simp only [Bool.false_eq_true, if_false] at h
    split at h
    · rename_i x hx
      split at h
      · rename_i hl
        simp at h
        subst h
        exact leaf_calm hl (fun rows => calm_mapShare1 cs 0 x (by rw [hx]; rfl) rows)
      · simp at h
    · simp at h

theorem load_does (hi : Inv g s a w) {n : Nat} {agg : Bool} {x : Src} {t : TypeId} {x' : Operand} (hx : chkSrc x x' = true) (ha : aggOf P t = some agg) (hs : sizeIs P t n = true) (hn : agg = true ∨ n = 1)
    (ho : o.op = .load t x') (h : runOp s (.load n agg false x) = some (v, s')) : Does P g a w o v s' := by
  simp only [runOp, Option.bind_eq_some_iff, Bool.false_eq_true, if_false, Option.map_eq_some_iff] at h
  obtain ⟨cs, hcs, u, hu, h⟩ := h
  cases h
  obtain ⟨hl, b, off, e, c, hc, hr⟩ := hi.under hx hcs
  have hrep := rep_ofCells (g := g) (w := w) hu (n := n) (by simpa using hl) (c := c) (fun j v hj => by
    simp only [List.getElem?_map, Option.map_eq_some_iff] at hj
    obtain ⟨y, hy, rfl⟩ := hj
    exact (hr j y hy).share1)
  have hg := rep_not_box _ hrep
  exact .pure hi (by simp [execOp, ho, e, run_loadAt ha hs hn hc]) (.calm hrep (ofCells_calm hu) hg)

end
end Go.Proofs.YtflciaomdlgjpaaGreatDoor.VVE

namespace Go.Proofs.YtflciaomdlgjpaaGreatDoor.VVE

theorem leaf_cells {cell : Addr → Option Value} {U : Nat → Nat} {β : List Nat} {v : V} {x : Value} (hl : v.leaf = true) (h : Rep cell U β v x) : x.cells = #[x] ∧ x.oneCell' = true ∧ v.cells = [v] ∧ v.goes = true ∧ v.solid = true := by
  cases h with
  | datum v x h => cases h <;> simp_all [V.leaf, Value.cells, Value.oneCell', V.cells, V.goes, V.solid]
  | ptr0 => simp [Value.cells, Value.oneCell', V.cells, V.goes, V.solid]
  | ref => simp [Value.cells, Value.oneCell', V.cells, V.goes, V.solid]
  | mp => simp [Value.cells, Value.oneCell', V.cells, V.goes, V.solid]
  | eptr => simp [V.leaf] at hl
  | clo => simp [Value.cells, Value.oneCell', V.cells, V.goes, V.solid]
  | agg => simp [V.leaf] at hl
  | tup => simp [V.leaf] at hl
  | undef => simp [V.leaf] at hl

theorem leaf_share1 {v : V} (h : v.leaf = true) : v.share1.leaf = true := by cases v <;> simp_all [V.leaf, V.share1]

theorem BlockRep.take {g : G} {w : World} {b : Nat} {pl : Nat → Own} {cells cs : List V} {off n : Nat} (h : BlockRep g w b pl cells) (hc : cut cells off n = some cs) (f : Own → Own)
    (hf : ∀ j, ¬ (off ≤ j ∧ j < off + n) → f (pl j) = pl j) : BlockRep (g.ren f) w b pl (splice cells off (cs.map V.share1)) := by
  obtain ⟨hU, c, e, fr, hh, hs, hfz, hcc⟩ := h
  obtain ⟨h2, h3, h4⟩ := cut_spec hc
  have hl : off + (cs.map V.share1).length ≤ cells.length := by simpa [h3] using h2
  refine ⟨hU, c, e, fr, hh, by rw [splice_length hl]; exact hs, hfz, fun j v hj => ?_⟩
  rw [splice_get hl] at hj
  split at hj
  · rename_i hr
    simp only [List.length_map, h3] at hr
    simp only [List.getElem?_map, Option.map_eq_some_iff] at hj
    obtain ⟨y, hy, rfl⟩ := hj
    rw [h4 _ (by omega), show off + (j - off) = j by omega] at hy
    obtain ⟨k1, k2, k3⟩ := hcc j y hy
    exact ⟨leaf_share1 k1, k2.share1, AppAt.calm (V.calm_share1 y)⟩
  · rename_i hr
    simp only [List.length_map, h3] at hr
    obtain ⟨k1, k2, k3⟩ := hcc j v hj
    exact ⟨k1, k2, k3.ren' f (hf j hr)⟩

theorem taken_pl {g : G} {w : World} {cs : List V} {agg : Bool} {u : V} (h : ofCells agg cs = some u) {n : Nat} (hn : cs.length = n) {c : Nat → Value} {pl : Nat → Own} {own : Own}
    (hr : ∀ (j : Nat) (u : V), cs[j]? = some u → u.leaf = true ∧ g.Rep w u (c j) ∧ AppAt g w (pl j) u (c j)) :
    PlRep g w own pl u (if agg then .agg ((List.range n).map c).toArray else c 0) := by
  have hrep := rep_ofCells h hn (fun j v hj => (hr j v hj).2.1)
  unfold ofCells at h
  cases agg with
  | true =>
    simp at h
    subst h
    refine (PlRep.solid rfl).2 ⟨hrep, fun j v hj => ?_⟩
    have hjn : j < n := by rw [← hn]; exact (List.getElem?_eq_some_iff.1 hj).1
    have : (Value.agg ((List.range n).map c).toArray).cells.getD j Go.undef = c j := by
      simp only [Value.cells]
      rw [Array.getD_eq_getD_getElem?]
      simp [List.getElem?_range hjn]
    rw [if_pos rfl, this]
    exact (hr j v hj).2.2
  | false =>
    simp only [Bool.false_eq_true, if_false] at h hrep ⊢
    split at h
    · split at h
      · rename_i x hl
        simp at h
        subst h
        obtain ⟨k1, k2, k3⟩ := hr 0 _ rfl
        obtain ⟨e1, e2, e3, e4, e5⟩ := leaf_cells k1 k2
        refine (PlRep.solid e5).2 ⟨hrep, fun j v hj => ?_⟩
        rw [e3] at hj
        obtain ⟨hj0, rfl⟩ := List.getElem?_eq_some_iff.1 hj
        simp at hj0
        subst hj0
        rw [e1]
        exact k3
      · simp at h
    · simp at h

def rangeF (t off n : Nat) : Own → Own
  | .tc t' j => if t' = t ∧ off ≤ j ∧ j < off + n then .pend (j - off) else .tc t' j
  | p => p

def rangeO (i off n : Nat) : Own → Own
  | .oc i' j => if i' = i ∧ off ≤ j ∧ j < off + n then .pend (j - off) else .oc i' j
  | p => p

section
variable {P : Program} {g : G} {s s' : St} {a : Act} {w : World} {o : Oper} {v : V}

/-- The address of a local box, and its block. -/
theorem Inv.local (hi : Inv g s a w) {x : Src} {x' : Operand} (hx : chkSrc x x' = true) {t off : Nat} (h1 : VVE.val s.env x = .lref t off) {cells : List V} (hcells : getT s.env t = .box cells) :
    ∃ b, a.eval x' = .pointer (some ⟨b, off, none⟩) ∧ a.tmps.getD t Go.undef = .pointer (some ⟨b, 0, none⟩) ∧ g.lam t = some b ∧ g.O b = some (.box t) ∧ BlockRep g w b (.tc t) cells := by
  obtain ⟨own, pl, hv, _⟩ := hi.val hx
  rw [h1] at hv
  obtain ⟨b, hb, e⟩ := hv
  have ht := hi.env t
  rw [hcells] at ht
  obtain ⟨b'', hx'', hO, hB⟩ := ht.1
  obtain ⟨b3, hl3, he3⟩ := ht.2 cells rfl
  have hbb : b'' = b := by
    rw [hx''] at he3
    rw [hl3] at hb
    cases hb
    cases he3
    rfl
  subst hbb
  exact ⟨b'', e, hx'', hb, hO, hB⟩

theorem Inv.object (hi : Inv g s a w) {x : Src} {x' : Operand} (hx : chkSrc x x' = true) {i off : Nat} (h1 : VVE.val s.env x = .ref i off) {cells : List V} (hcells : s.heap[i]? = some (.cells cells)) :
    ∃ b, a.eval x' = .pointer (some ⟨b, off, none⟩) ∧ g.β[i]? = some b ∧ g.O b = some (.obj i) ∧ BlockRep g w b (.oc i) cells ∧ ∀ c ∈ cells, c.under i = true := by
  obtain ⟨own, pl, hv, _⟩ := hi.val hx
  rw [h1] at hv
  obtain ⟨b, hb, e⟩ := hv.1.ref_inv
  obtain ⟨b', hb', hO, hB, hu⟩ := hi.heap.rep i _ hcells
  have hbb : b' = b := by rw [hb] at hb'; cases hb'; rfl
  subst hbb
  exact ⟨b', e, hb, hO, hB, hu⟩

theorem under_share1 {i : Nat} {v : V} (h : v.under i = true) : v.share1.under i = true := by cases v <;> simp_all [V.under, V.share1]

/-- The other temporaries and objects, where the place of one box turned. -/
theorem Inv.setLocal {g' : G} {env : List V} {t : Nat} {cells cells' : List V} (hi : Inv g s a w) (hs : s.env.length = env.length) (ho : ∀ t', t' ≠ t → getT env t' = getT s.env t') (ht : getT s.env t = .box cells) (ht' : getT env t = .box cells')
    {w' : World} (h1 : ∀ t', t' ≠ t → TmpRep g' w' t' (getT s.env t') (a.tmps.getD t' Go.undef)) (h2 : TmpRep g' w' t (.box cells') (a.tmps.getD t Go.undef))
    (h3 : HeapInv g' s.heap w') (h4 : Fresh g' w') : Inv g' { s with env := env } a w' := by
  refine ⟨hi.defers, by rw [hi.size, hs], fun t' => ?_, h3, h4⟩
  by_cases h : t' = t
  · subst h
    show TmpRep g' w' t' (getT env t') _
    rw [ht']
    exact h2
  · show TmpRep g' w' t' (getT env t') _
    rw [ho t' h]
    exact h1 t' h

theorem getT_lt {env : List V} {t : Nat} {cs : List V} (h : getT env t = .box cs) : t < env.length := by
  rcases Nat.lt_or_ge t env.length with hl | hl
  · exact hl
  · rw [getT_ge (by omega)] at h
    cases h

theorem take_does (hi : Inv g s a w) {n : Nat} {agg : Bool} {x : Src} {t : TypeId} {x' : Operand} (hx : chkSrc x x' = true) (ha : aggOf P t = some agg) (hs : sizeIs P t n = true) (hn : agg = true ∨ n = 1)
    (ho : o.op = .load t x') (h : runOp s (.load n agg true x) = some (v, s')) : Does P g a w o v s' := by
  simp only [runOp, Option.bind_eq_some_iff, if_true] at h
  obtain ⟨cs, hcs, h⟩ := h
  obtain ⟨hl, b0, off0, e0, c0, hc0, hr0⟩ := hi.under hx hcs
  have hrun : (execOp a.eval o).run P w = .ok (.value (if agg then .agg ((List.range n).map c0).toArray else c0 0)) w := by simp [execOp, ho, e0, run_loadAt ha hs hn hc0]
  split at h
  · simp at h
  · rename_i hne
    simp only [Option.bind_eq_some_iff, Option.map_eq_some_iff] at h
    obtain ⟨u, hu, s1, hs1, h⟩ := h
    cases h
    unfold loadAt at hcs
    split at hcs
    · rename_i t' off h1
      split at hcs
      · rename_i cells hcells
        obtain ⟨b, e, htm, hlam, hO, hB⟩ := hi.local hx h1 hcells
        rw [e] at e0
        obtain ⟨rfl, rfl⟩ : b = b0 ∧ off = off0 := by cases e0; exact ⟨rfl, rfl⟩
        have hlt := getT_lt hcells
        have hB' := hB.take hcs (rangeF t' off n) (fun j hj => by simp only [rangeF]; rw [if_neg (by omega)])
        rw [h1] at hs1
        unfold storeAt at hs1
        simp only [hcells] at hs1
        split at hs1
        · simp at hs1
          subst hs1
          have hsame : ∀ j, j < n → c0 j = (match w.heap[b]? with | some (.cells c _ _) => c | _ => #[]).getD (off + j) Go.undef := by
            intro j hj
            obtain ⟨hU, c, ee, fr, hh, hss, hf, hc⟩ := hB
            have := hc0 j hj
            rw [cell_of hh] at this
            simp only [hh]
            rw [Array.getD_eq_getD_getElem?, this]
            rfl
          refine ⟨_, w, g.ren (rangeF t' off n), .inl hrun, Fr.ren g w _, ?_, ?_⟩
          · refine hi.setLocal (cells := cells) (t := t') (cells' := splice cells off (cs.map V.share1)) (by simp) (fun t'' ht => ?_) hcells ?_ (fun t'' ht => ?_) ⟨⟨b, htm, by show (g.O b).map _ = _; rw [hO]; rfl, hB'⟩, fun _ _ => ⟨b, hlam, htm⟩⟩ (hi.heap.ren _ (fun _ => rfl) (fun _ _ => rfl)) (hi.fresh.ren _)
            · rw [getT_set, if_neg (fun hh => ht hh.1.symm)]
            · rw [getT_set, if_pos ⟨rfl, hlt⟩]
            · exact (hi.env t'').ren _ rfl (fun j => by simp only [rangeF]; rw [if_neg (fun hh => ht hh.1)])
          · refine taken_pl hu hl (fun j y hj => ?_)
            have hjn : j < n := by rw [← hl]; exact (List.getElem?_eq_some_iff.1 hj).1
            obtain ⟨h2, h3, h4⟩ := cut_spec hcs
            rw [h4 j hjn] at hj
            obtain ⟨hU, c, ee, fr, hh, hss, hf, hc⟩ := hB
            obtain ⟨k1, k2, k3⟩ := hc _ _ hj
            have e1 := hsame j hjn
            simp only [hh] at e1
            rw [e1]
            exact ⟨k1, k2, k3.ren' _ (by show (if _ then _ else _) = _; rw [if_pos ⟨rfl, by omega, by omega⟩]; congr 1; omega)⟩
        · simp at hs1
      · simp at hcs
    · rename_i i off h1
      split at hcs
      · rename_i cells hcells
        obtain ⟨b, e, hβ, hO, hB, hun⟩ := hi.object hx h1 hcells
        rw [e] at e0
        obtain ⟨rfl, rfl⟩ : b = b0 ∧ off = off0 := by cases e0; exact ⟨rfl, rfl⟩
        have hlt : i < s.heap.length := (List.getElem?_eq_some_iff.1 hcells).1
        have hB' := hB.take hcs (rangeO i off n) (fun j hj => by simp only [rangeO]; rw [if_neg (by omega)])
        rw [h1] at hs1
        unfold storeAt at hs1
        simp only [hcells] at hs1
        split at hs1
        · rename_i hle
          simp at hs1
          subst hs1
          have hsame : ∀ j, j < n → c0 j = (match w.heap[b]? with | some (.cells c _ _) => c | _ => #[]).getD (off + j) Go.undef := by
            intro j hj
            obtain ⟨hU, c, ee, fr, hh, hss, hf, hc⟩ := hB
            have := hc0 j hj
            rw [cell_of hh] at this
            simp only [hh]
            rw [Array.getD_eq_getD_getElem?, this]
            rfl
          refine ⟨_, w, g.ren (rangeO i off n), .inl hrun, Fr.ren g w _, ?_, ?_⟩
          · refine ⟨hi.defers, hi.size, fun t'' => (hi.env t'').ren _ rfl (fun j => rfl), ⟨by rw [List.length_set]; exact hi.heap.len, fun i' o' hio => ?_⟩, hi.fresh.ren _⟩
            simp only [List.getElem?_set] at hio
            split at hio
            · rename_i hii
              subst hii
              first | rw [if_pos hlt] at hio | skip
              cases hio
              refine ⟨b, hβ, by show (g.O b).map _ = _; rw [hO]; rfl, hB', fun c hc => ?_⟩
              obtain ⟨j, hj⟩ := List.mem_iff_getElem?.1 hc
              rw [splice_get hle] at hj
              split at hj
              · simp only [List.getElem?_map, Option.map_eq_some_iff] at hj
                obtain ⟨y, hy, rfl⟩ := hj
                obtain ⟨h2, h3, h4⟩ := cut_spec hcs
                have hjn : j - off < n := by rw [← h3]; exact (List.getElem?_eq_some_iff.1 hy).1
                rw [h4 _ hjn] at hy
                exact under_share1 (hun y (List.mem_of_getElem? hy))
              · exact hun c (List.mem_of_getElem? hj)
            · rename_i hii
              exact (hi.heap.rep i' o' hio).ren _ rfl (fun j => by simp only [rangeO]; rw [if_neg (fun hh => hii hh.1.symm)])
          · refine taken_pl hu hl (fun j y hj => ?_)
            have hjn : j < n := by rw [← hl]; exact (List.getElem?_eq_some_iff.1 hj).1
            obtain ⟨h2, h3, h4⟩ := cut_spec hcs
            rw [h4 j hjn] at hj
            obtain ⟨hU, c, ee, fr, hh, hss, hf, hc⟩ := hB
            obtain ⟨k1, k2, k3⟩ := hc _ _ hj
            have e1 := hsame j hjn
            simp only [hh] at e1
            rw [e1]
            exact ⟨k1, k2, k3.ren' _ (by show (if _ then _ else _) = _; rw [if_pos ⟨rfl, by omega, by omega⟩]; congr 1; omega)⟩
        · simp at hs1
      · simp at hcs
    · rename_i row off h1
      exact absurd h1 (hne _ _)
    · simp at hcs

end
end Go.Proofs.YtflciaomdlgjpaaGreatDoor.VVE

namespace Go.Proofs.YtflciaomdlgjpaaGreatDoor.VVE

theorem V.underAll_mem {n : Nat} : ∀ {l : List V}, V.under.underAll n l = true → ∀ c ∈ l, c.under n = true
  | [], _ => by simp
  | v :: vs, h => by
    simp only [V.under.underAll, Bool.and_eq_true] at h
    intro c hc
    rcases List.mem_cons.1 hc with rfl | hc
    · exact h.1
    · exact V.underAll_mem h.2 c hc

theorem under_cells {n : Nat} {v : V} (h : v.under n = true) : ∀ c ∈ v.cells, c.under n = true := by
  cases v
  case agg cs => exact V.underAll_mem (l := cs) (by simpa [V.under] using h)
  case box cs => simp [V.under] at h
  all_goals
    intro c hc
    simp only [V.cells, List.mem_singleton] at hc
    rw [hc]
    exact h

theorem datum_under {v : V} (h : v.datum = true) (n : Nat) : v.under n = true := by cases v <;> simp_all [V.datum, V.under]

theorem datum_leaf {v : V} (h : v.datum = true) : v.leaf = true := by cases v <;> simp_all [V.datum, V.leaf]

theorem cells_pl {g : G} {w : World} {own : Own} {pl : Nat → Own} {v : V} {x : Value} (h : PlRep g w own pl v x) (hb : ∀ cs, v ≠ .box cs) (hl : v.cells.all V.leaf = true) :
    x.cells.size = v.cells.length ∧ ∀ (j : Nat) (u : V), v.cells[j]? = some u → u.leaf = true ∧ g.Rep w u (x.cells.getD j Go.undef) ∧ AppAt g w (pl j) u (x.cells.getD j Go.undef) ∧ (x.cells.getD j Go.undef).oneCell' = true := by
  have hs : v.solid = true := by cases v <;> first | rfl | (simp [V.cells, V.leaf] at hl; done) | exact absurd rfl (hb _)
  obtain ⟨hr, ha⟩ := (PlRep.solid hs).1 h
  have hleaf : ∀ (j : Nat) (u : V), v.cells[j]? = some u → u.leaf = true := fun j u hj => List.all_eq_true.1 hl u (List.mem_of_getElem? hj)
  by_cases hag : ∃ cs, v = .agg cs
  · obtain ⟨cs, rfl⟩ := hag
    obtain ⟨xs, rfl, h1, h2⟩ := hr.agg_inv
    refine ⟨by simpa [Value.cells, V.cells] using h1, fun j u hj => ?_⟩
    have hx : (Value.agg xs.toArray).cells.getD j Go.undef = xs.getD j Go.undef := by simp [Value.cells, Array.getD_eq_getD_getElem?, List.getD_eq_getElem?_getD]
    have h3 := ha j u hj
    rw [hx] at h3 ⊢
    have h4 := h2 j u hj
    exact ⟨hleaf j u hj, h4, h3, (leaf_cells (hleaf j u hj) h4).2.1⟩
  · have hc : v.cells = [v] := by cases v <;> first | rfl | exact absurd ⟨_, rfl⟩ hag | exact absurd rfl (hb _)
    have hvl := hleaf 0 v (by rw [hc]; rfl)
    obtain ⟨e1, e2, e3, e4, e5⟩ := leaf_cells hvl hr
    refine ⟨by rw [e1, hc]; rfl, fun j u hj => ?_⟩
    have h3 := ha j u hj
    rw [hc] at hj
    obtain ⟨hj0, rfl⟩ := List.getElem?_eq_some_iff.1 hj
    simp at hj0
    subst hj0
    rw [e1] at h3 ⊢
    exact ⟨hvl, hr, h3, e2⟩

theorem HeapInv.keep {E : Own → Prop} {g g' : G} {w w' : World} {h : List Obj'} (hi : HeapInv g h w) (hk : Keep E g w g' w') (hβ : g'.β = g.β) (h3 : ∀ i, ¬ E (.obj i)) (h4 : ∀ i j, ¬ E (.oc i j)) : HeapInv g' h w' := by
  refine ⟨by rw [hβ]; exact hi.len, fun i o hio => ?_⟩
  have h0 := hi.rep i o hio
  unfold ObjRep at *
  split
  · trivial
  · obtain ⟨b, hb, hO, hB, hu⟩ := h0
    exact ⟨b, by rw [hβ]; exact hb, (hk.own b _ hO (h3 i)).2.2, hB.keep hk hO (h3 i) (h4 i), hu⟩
  · obtain ⟨b, hb, hO, hU, he, ck, hh⟩ := h0
    obtain ⟨k1, k2, k3⟩ := hk.own b _ hO (h3 i)
    exact ⟨b, by rw [hβ]; exact hb, k3, k2.trans hU, he, ck, k1.trans hh⟩

theorem ObjRep.keep {E : Own → Prop} {g g' : G} {w w' : World} {i : Nat} {o : Obj'} (h0 : ObjRep g w i o) (hk : Keep E g w g' w') (hβ : g'.β = g.β) (h3 : ¬ E (.obj i)) (h4 : ∀ j, ¬ E (.oc i j)) : ObjRep g' w' i o := by
  unfold ObjRep at *
  split
  · trivial
  · obtain ⟨b, hb, hO, hB, hu⟩ := h0
    exact ⟨b, by rw [hβ]; exact hb, (hk.own b _ hO h3).2.2, hB.keep hk hO h3 h4, hu⟩
  · obtain ⟨b, hb, hO, hU, he, ck, hh⟩ := h0
    obtain ⟨k1, k2, k3⟩ := hk.own b _ hO h3
    exact ⟨b, by rw [hβ]; exact hb, k3, k2.trans hU, he, ck, k1.trans hh⟩

theorem TmpRep.keep {E : Own → Prop} {g g' : G} {w w' : World} {t : Nat} {v : V} {x : Value} (h : TmpRep g w t v x) (hk : Keep E g w g' w') (hl : g'.lam = g.lam) (h1 : ¬ E (.box t)) (h2 : ∀ j, ¬ E (.tc t j)) : TmpRep g' w' t v x :=
  ⟨h.1.keep hk h1 h2 (fun t b hb => by rw [hl]; exact hb), fun cs hcs => by obtain ⟨b, hb, hx⟩ := h.2 cs hcs; exact ⟨b, by rw [hl]; exact hb, hx⟩⟩

theorem val_drain {env : List V} {x y : Src} {p : V} (h : val env x = p) (hp : p.share = p) : val (drain env y) x = p := by
  cases x with
  | c v => exact h
  | t i =>
    cases y with
    | c v => exact h
    | t k =>
      by_cases hb : ∃ cs, getT env k = .box cs
      · obtain ⟨cs, hcs⟩ := hb
        have : drain env (.t k) = env := by unfold drain; simp [hcs]
        rw [this]; exact h
      · have hnb : ∀ cs, getT env k ≠ .box cs := fun cs hcs => hb ⟨cs, hcs⟩
        rw [drain_nb hnb]
        by_cases hik : k = i ∧ k < env.length
        · obtain ⟨rfl, hl⟩ := hik
          rw [val_nb hnb] at h
          have hg : getT (env.set k (getT env k).share) k = p := by rw [getT_set, if_pos ⟨rfl, hl⟩, h, hp]
          rw [val_nb (by rw [hg, ← h]; exact hnb), hg]
        · have hg : getT (env.set k (getT env k).share) i = getT env i := by rw [getT_set, if_neg hik]
          unfold val at h ⊢
          dsimp only at h ⊢
          rw [hg]
          exact h

theorem getT_drain_box {env : List V} {y : Src} {t : Nat} {cs : List V} (h : getT env t = .box cs) : getT (drain env y) t = .box cs := by
  cases y with
  | c v => exact h
  | t k =>
    by_cases hb : ∃ cs, getT env k = .box cs
    · obtain ⟨cs', hcs⟩ := hb
      have : drain env (.t k) = env := by unfold drain; simp [hcs]
      rw [this]; exact h
    · have hnb : ∀ cs, getT env k ≠ .box cs := fun cs hcs => hb ⟨cs, hcs⟩
      rw [drain_nb hnb, getT_set, if_neg]
      · exact h
      · rintro ⟨rfl, _⟩
        exact hnb _ h

theorem BlockRep.write {g : G} {w : World} {b : Nat} {pl : Nat → Own} {cells new : List V} {off : Nat} {q : Own} {f : Own → Own} {c : Array Value} {e : TypeId} {fr : Nat × Nat} {xs : List Value}
    (h : BlockRep g w b pl cells) (hh : w.heap[b]? = some (.cells c e fr)) (hO : g.O b = some q) (hle : off + new.length ≤ cells.length) (hxs : xs.length = new.length) (hU : g.U b = 0)
    (hq : ∀ j, pl j ≠ q) (hqp : ∀ j, Own.pend j ≠ q)
    (hn : ∀ (j : Nat) (u : V), new[j]? = some u → u.leaf = true ∧ g.Rep w u (xs.getD j Go.undef) ∧ AppAt g w (.pend j) u (xs.getD j Go.undef))
    (hf1 : ∀ j, f (pl j) = pl j) (hf2 : ∀ j, j < new.length → f (.pend j) = pl (off + j)) :
    BlockRep (g.ren f) (World.withBlock w b (.cells (writeAt c off xs) e fr)) b pl (splice cells off new) := by
  have hlt : b < w.heap.size := (Array.getElem?_eq_some_iff.1 hh).1
  obtain ⟨_, c1, e1, fr1, hh1, hs, hfz, hcc⟩ := h
  rw [hh] at hh1
  cases hh1
  have hk : Keep (fun p => p = q) g w g (World.withBlock w b (.cells (writeAt c off xs) e fr)) :=
    Keep.withBlock hh hO (fun _ _ => rfl) (Nat.le_refl _) (fun _ _ => rfl) (fun _ _ h => h) (fun j hj => by omega)
  refine ⟨hU, writeAt c off xs, e, fr, by rw [World.heap_withBlock, if_pos ⟨rfl, hlt⟩], by rw [size_writeAt, splice_length hle, hs], by unfold Unfrozen at *; simpa using hfz, fun j v hj => ?_⟩
  have hgd : (writeAt c off xs).getD j Go.undef = if off ≤ j ∧ j < off + new.length then xs.getD (j - off) Go.undef else c.getD j Go.undef := by
    rw [Array.getD_eq_getD_getElem?, getElem?_writeAt xs c off j (by omega), hxs]
    split
    · rw [List.getD_eq_getElem?_getD]
    · rw [Array.getD_eq_getD_getElem?]
  rw [splice_get hle] at hj
  split at hj
  · rename_i hr
    rw [hgd, if_pos hr]
    obtain ⟨k1, k2, k3⟩ := hn _ _ hj
    refine ⟨k1, hk.toExt.rep k2, (k3.keep hk (hqp _)).ren' f ?_⟩
    rw [hf2 _ (by omega)]
    congr 1
    omega
  · rename_i hr
    rw [hgd, if_neg hr]
    obtain ⟨k1, k2, k3⟩ := hcc j v hj
    exact ⟨k1, hk.toExt.rep k2, (k3.keep hk (hq _)).ren' f (hf1 j)⟩

def storeF (t off : Nat) : Own → Own
  | .pend j => .tc t (off + j)
  | p => p

def storeO (i off : Nat) : Own → Own
  | .pend j => .oc i (off + j)
  | p => p

section
variable {P : Program} {g : G} {s s' : St} {a : Act} {w : World} {o : Oper} {v : V}

theorem storeVar_run {t : TypeId} {n : Nat} (hs : sizeIs P t n = true) {b off : Nat} {c : Array Value} {e : TypeId} {fr : Nat × Nat} (hh : w.heap[b]? = some (.cells c e fr)) (hf : Unfrozen c fr) {x : Value} (hx : x.cells.size = n)
    (ho : ∀ y ∈ x.cells.toList, y.oneCell' = true) (hle : off + n ≤ c.size) :
    (Instr.storeAt t (.pointer (some ⟨b, off, none⟩)) x).run P w = .ok () (World.withBlock w b (.cells (writeAt c off x.cells.toList) e fr)) := by
  have := run_storeCells (P := P) x.cells.toList w b off 0 c e fr hh hf (by simp [hx]; omega) ho
  simp at this
  simp [Instr.storeAt, Instr.sureAddr, storeVar, run_sizeOf hs, hx, this]

theorem store_does (hi : Inv g s a w) {n : Nat} {x y : Src} {t : TypeId} {x' y' : Operand} (hx : chkSrc x x' = true) (hy : chkSrc y y' = true) (hs : sizeIs P t n = true)
    (ho : o.op = .store t x' y') (h : runOp s (.store n x y) = some (v, s')) : Does P g a w o v s' := by
  simp only [runOp] at h
  split at h
  · rename_i hc
    obtain ⟨hcn, hcl⟩ := hc
    obtain ⟨hi1, hpl⟩ := hi.take hy .pbox .pend
    have hnb := val_not_box s.env y (chkSrc_not_box hy)
    obtain ⟨hsz, hcells⟩ := cells_pl hpl hnb hcl
    generalize hu : VVE.val s.env y = u at *
    generalize hg1 : g.ren (takeS s.env y .pend) = g1 at *
    have hfr1 : Fr g w g1 w := by rw [← hg1]; exact Fr.ren g w _
    have hone : ∀ z ∈ (a.eval y').cells.toList, z.oneCell' = true := by
      intro z hz
      obtain ⟨j, hj⟩ := List.mem_iff_getElem?.1 hz
      have hjl : j < u.cells.length := by
        have := (List.getElem?_eq_some_iff.1 hj).1
        simp at this
        omega
      have := (hcells j _ (List.getElem?_eq_getElem hjl)).2.2.2
      rw [Array.getD_eq_getD_getElem?] at this
      rw [Array.getElem?_toList] at hj
      rw [hj] at this
      exact this
    have hnew : ∀ (j : Nat) (q : V), u.cells[j]? = some q → q.leaf = true ∧ g1.Rep w q ((a.eval y').cells.toList.getD j Go.undef) ∧ AppAt g1 w (.pend j) q ((a.eval y').cells.toList.getD j Go.undef) := by
      intro j q hj
      obtain ⟨k1, k2, k3, _⟩ := hcells j q hj
      rw [List.getD_eq_getElem?_getD, Array.getElem?_toList, ← Array.getD_eq_getD_getElem?]
      exact ⟨k1, k2, k3⟩
    have hxl : (a.eval y').cells.toList.length = u.cells.length := by simpa using hsz
    have local_case : ∀ t' off cells, VVE.val s.env x = .lref t' off → getT s.env t' = .box cells → off + u.cells.length ≤ cells.length →
        Does P g a w o .undef { env := (drain s.env y).set t' (.box (splice cells off u.cells)), heap := s.heap } := by
      intro t' off cells h1 h2 hle
      have h1' := val_drain (y := y) h1 rfl
      have h2' := getT_drain_box (y := y) h2
      obtain ⟨b, e, htm, hlam, hO, hB⟩ := hi1.local hx h1' h2'
      have hlt := getT_lt h2'
      obtain ⟨hU, c, ee, fr, hh, hss, hf, hcc⟩ := id hB
      have hk : Keep (fun p => p = .box t') g1 w g1 (World.withBlock w b (.cells (writeAt c off (a.eval y').cells.toList) ee fr)) :=
        Keep.withBlock hh hO (fun _ _ => rfl) (Nat.le_refl _) (fun _ _ => rfl) (fun _ _ h => h) (fun j hj => by omega)
      have hB' := hB.write (f := storeF t' off) hh hO hle hxl hU (by simp) (by simp) hnew (fun _ => rfl) (fun _ _ => rfl)
      have hfresh : Fresh g1 (World.withBlock w b (.cells (writeAt c off (a.eval y').cells.toList) ee fr)) := ⟨fun b' hb' => hi1.fresh.U b' (by simpa using hb'), fun b' hb' => hi1.fresh.O b' (by simpa using hb')⟩
      refine ⟨Go.undef, World.withBlock w b (.cells (writeAt c off (a.eval y').cells.toList) ee fr), g1.ren (storeF t' off), .inr ⟨?_, rfl⟩, ?_, ?_, trivial⟩
      · have := storeVar_run (P := P) hs hh hf (x := a.eval y') (by rw [hsz, hcn]) hone (off := off) (by omega)
        simp [execOp, ho, e, this]
      · refine hfr1.trans (Fr.trans (Fr.withBlock hh hO (fun _ _ => rfl) (Nat.le_refl _) (fun _ _ => rfl) (fun _ _ h => h) (fun j hj => by omega)) (Fr.ren g1 _ _))
      · refine hi1.setLocal (cells := cells) (t := t') (cells' := splice cells off u.cells) (by simp) (fun t'' ht => ?_) h2' ?_ (fun t'' ht => ?_) ⟨⟨b, htm, by show (g1.O b).map _ = _; rw [hO]; rfl, hB'⟩, fun _ _ => ⟨b, hlam, htm⟩⟩ ?_ (hfresh.ren _)
        · rw [getT_set, if_neg (fun hh => ht hh.1.symm)]
        · rw [getT_set, if_pos ⟨rfl, hlt⟩]
        · exact ((hi1.env t'').keep hk rfl (by simpa using ht) (by simp)).ren _ rfl (fun _ => rfl)
        · exact (hi1.heap.keep hk rfl (by simp) (by simp)).ren _ (fun _ => rfl) (fun _ _ => rfl)
    have obj_case : ∀ i off cells, VVE.val s.env x = .ref i off → s.heap[i]? = some (.cells cells) → off + u.cells.length ≤ cells.length → u.under i = true →
        Does P g a w o .undef { env := drain s.env y, heap := s.heap.set i (.cells (splice cells off u.cells)) } := by
      intro i off cells h1 h2 hle hun
      have h1' := val_drain (y := y) h1 rfl
      obtain ⟨b, e, hβ, hO, hB, hund⟩ := hi1.object hx h1' h2
      have hlt : i < s.heap.length := (List.getElem?_eq_some_iff.1 h2).1
      obtain ⟨hU, c, ee, fr, hh, hss, hf, hcc⟩ := id hB
      have hk : Keep (fun p => p = .obj i) g1 w g1 (World.withBlock w b (.cells (writeAt c off (a.eval y').cells.toList) ee fr)) :=
        Keep.withBlock hh hO (fun _ _ => rfl) (Nat.le_refl _) (fun _ _ => rfl) (fun _ _ h => h) (fun j hj => by omega)
      have hB' := hB.write (f := storeO i off) hh hO hle hxl hU (by simp) (by simp) hnew (fun _ => rfl) (fun _ _ => rfl)
      have hfresh : Fresh g1 (World.withBlock w b (.cells (writeAt c off (a.eval y').cells.toList) ee fr)) := ⟨fun b' hb' => hi1.fresh.U b' (by simpa using hb'), fun b' hb' => hi1.fresh.O b' (by simpa using hb')⟩
      refine ⟨Go.undef, World.withBlock w b (.cells (writeAt c off (a.eval y').cells.toList) ee fr), g1.ren (storeO i off), .inr ⟨?_, rfl⟩, ?_, ?_, trivial⟩
      · have := storeVar_run (P := P) hs hh hf (x := a.eval y') (by rw [hsz, hcn]) hone (off := off) (by omega)
        simp [execOp, ho, e, this]
      · exact hfr1.trans (Fr.trans (Fr.withBlock hh hO (fun _ _ => rfl) (Nat.le_refl _) (fun _ _ => rfl) (fun _ _ h => h) (fun j hj => by omega)) (Fr.ren g1 _ _))
      · refine ⟨hi1.defers, hi1.size, fun t'' => ((hi1.env t'').keep hk rfl (by simp) (by simp)).ren _ rfl (fun _ => rfl), ⟨by rw [List.length_set]; exact hi1.heap.len, fun i' o' hio => ?_⟩, hfresh.ren _⟩
        simp only [List.getElem?_set] at hio
        split at hio
        · rename_i hii
          subst hii
          first | rw [if_pos hlt] at hio | skip
          cases hio
          refine ⟨b, hβ, by show (g1.O b).map _ = _; rw [hO]; rfl, hB', fun q hq => ?_⟩
          obtain ⟨j, hj⟩ := List.mem_iff_getElem?.1 hq
          rw [splice_get hle] at hj
          split at hj
          · exact under_cells hun q (List.mem_of_getElem? hj)
          · exact hund q (List.mem_of_getElem? hj)
        · rename_i hii
          exact ((hi1.heap.rep i' o' hio).keep hk rfl (by simpa using fun hh => hii hh.symm) (by simp)).ren _ rfl (fun _ => rfl)
    split at h
    · rename_i i off h1
      split at h
      · rename_i hun
        simp only [Option.map_eq_some_iff] at h
        obtain ⟨s1, hs1, h⟩ := h
        cases h
        unfold storeAt at hs1
        simp only at hs1
        split at hs1
        · rename_i cells hcl'
          split at hs1
          · rename_i hle
            simp at hs1
            subst hs1
            exact obj_case i off cells h1 hcl' hle hun
          · simp at hs1
        · simp at hs1
      · simp at h
    · rename_i p hne
      simp only [Option.map_eq_some_iff] at h
      obtain ⟨s1, hs1, h⟩ := h
      cases h
      unfold storeAt at hs1
      split at hs1
      · rename_i t' off h1
        split at hs1
        · rename_i cells hcl'
          split at hs1
          · rename_i hle
            simp at hs1
            subst hs1
            have h2 : getT s.env t' = .box cells := by
              cases y with
              | c _ => exact hcl'
              | t k =>
                by_cases hb : ∃ cs, getT s.env k = .box cs
                · obtain ⟨cs', hcs⟩ := hb
                  have : drain s.env (.t k) = s.env := by unfold drain; simp [hcs]
                  simp only [this] at hcl'
                  exact hcl'
                · have hnb : ∀ cs, getT s.env k ≠ .box cs := fun cs hcs => hb ⟨cs, hcs⟩
                  simp only [drain_nb hnb, getT_set] at hcl'
                  split at hcl'
                  · exfalso
                    revert hcl'
                    cases hq : getT s.env k <;> simp [V.share]
                    exact absurd hq (hnb _)
                  · exact hcl'
            exact local_case t' off cells h1 h2 hle
          · simp at hs1
        · simp at hs1
      · rename_i i off h1
        exact absurd h1 (hne _ _)
      · simp at hs1
  · simp at h

end
end Go.Proofs.YtflciaomdlgjpaaGreatDoor.VVE

namespace Go.Proofs.YtflciaomdlgjpaaGreatDoor.VVE

theorem zeroIs_spec {P : Program} {t : TypeId} {zero : List V} (h : zeroIs P t zero = true) : ∃ i z, P.info? t = some i ∧ i.zero = some z ∧ chkConsts zero z.cells.toList = true := by
  unfold zeroIs at h
  split at h
  · rename_i i hi
    split at h
    · rename_i z hz
      exact ⟨i, z, hi, hz, h⟩
    · simp at h
  · simp at h

theorem chkConsts_spec : ∀ {vs : List V} {xs : List Value}, chkConsts vs xs = true → xs.length = vs.length ∧ ∀ (j : Nat) (u : V), vs[j]? = some u → chkConst u (xs.getD j Go.undef) = true
  | [], [], _ => ⟨rfl, by simp⟩
  | v :: vs, x :: xs, h => by
    simp only [chkConsts, Bool.and_eq_true] at h
    obtain ⟨h1, h2⟩ := chkConsts_spec h.2
    refine ⟨by simp [h1], fun j u hj => ?_⟩
    cases j with
    | zero => simp at hj; subst hj; exact h.1
    | succ j => simpa using h2 j u (by simpa using hj)
  | [], _ :: _, h => by simp [chkConsts] at h
  | _ :: _, [], h => by simp [chkConsts] at h

theorem consts_rep {g : G} {w : World} {zero : List V} {xs : List Value} (h : chkConsts zero xs = true) :
    xs.length = zero.length ∧ ∀ (j : Nat) (u : V), zero[j]? = some u → u.leaf = true ∧ g.Rep w u (xs.getD j Go.undef) ∧ (∀ p, AppAt g w p u (xs.getD j Go.undef)) ∧ (xs.getD j Go.undef).oneCell' = true := by
  obtain ⟨h1, h2⟩ := chkConsts_spec h
  refine ⟨h1, fun j u hj => ?_⟩
  obtain ⟨k1, k2, _, _, _, k6⟩ := chkConst_rep (g := g) (w := w) (h2 j u hj)
  exact ⟨k6, k1, k2, (leaf_cells k6 k1).2.1⟩

theorem run_zeroValue {P : Program} {t : TypeId} {i : TypeInfo} {z : Value} (hi : P.info? t = some i) (hz : i.zero = some z) (w : World) : (zeroValue t).run P w = .ok z w := by
  simp [zeroValue, typeInfo, hi, hz]

def boxF (i : Nat) : Own → Own
  | .pbox => .obj i
  | .pend j => .oc i j
  | p => p

def G.grow (g : G) (b : Nat) : G := { g with β := g.β ++ [b] }

theorem Ext.grow (g : G) (w : World) (b : Nat) : Ext g w (g.grow b) w :=
  ⟨fun _ _ _ => rfl, fun _ => Nat.le_refl _, fun i b' h => by
    simp only [G.grow]
    rw [List.getElem?_append_left (List.getElem?_eq_some_iff.1 h).1]
    exact h⟩

theorem Keep.grow (g : G) (w : World) (b : Nat) : Keep (fun _ => False) g w (g.grow b) w := ⟨Ext.grow g w b, fun _ _ h _ => ⟨rfl, rfl, h⟩⟩

theorem Fr.grow (g : G) (w : World) (b : Nat) : Fr g w (g.grow b) w := ⟨Ext.grow g w b, Nat.le_refl _, fun _ _ h => ⟨rfl, rfl, h⟩, rfl, rfl⟩

section
variable {P : Program} {g : G} {s s' : St} {a : Act} {w : World} {o : Oper} {v : V}

theorem ObjRep.grow {i : Nat} {o' : Obj'} (h : ObjRep g w i o') (b : Nat) : ObjRep (g.grow b) w i o' := by
  unfold ObjRep at *
  have hk := Keep.grow g w b
  split
  · trivial
  · obtain ⟨b', hb, hO, hB, hu⟩ := h
    exact ⟨b', hk.β i b' hb, hO, hB.keep hk hO id (fun _ => id), hu⟩
  · obtain ⟨b', hb, h⟩ := h
    exact ⟨b', hk.β i b' hb, h⟩

/-- A block that is pending becomes an object. -/
theorem Inv.newObj (hi : Inv g s a w) {b : Nat} {o' : Obj'} (h : ∀ g', g' = (g.ren (boxF s.heap.length)).grow b → ObjRep g' w s.heap.length o') :
    Inv ((g.ren (boxF s.heap.length)).grow b) { s with heap := s.heap ++ [o'] } a w := by
  have hi' : ∀ t, TmpRep (g.ren (boxF s.heap.length)) w t (getT s.env t) (a.tmps.getD t Go.undef) := fun t => (hi.env t).ren _ rfl (fun _ => rfl)
  refine ⟨hi.defers, hi.size, fun t => (hi' t).keep (Keep.grow _ w b) rfl id (fun _ => id), ⟨by simp [G.grow, hi.heap.len]; rfl, fun i oo hio => ?_⟩, ⟨fun b' hb' => hi.fresh.U b' hb', fun b' hb' => by simp [G.grow, G.ren, hi.fresh.O b' hb']⟩⟩
  rcases Nat.lt_or_ge i s.heap.length with hl | hl
  · rw [List.getElem?_append_left hl] at hio
    exact ((hi.heap.rep i oo hio).ren (boxF s.heap.length) rfl (fun _ => rfl)).grow b
  · rw [List.getElem?_append_right hl] at hio
    have h0 : i = s.heap.length := by
      have := (List.getElem?_eq_some_iff.1 hio).1
      simp at this
      omega
    subst h0
    simp at hio
    subst hio
    exact h _ rfl

theorem objRep_of_block {i b : Nat} {cells : List V} (hlen : g.β.length = i) (hO : g.O b = some .pbox) (hB : BlockRep g w b .pend cells) (hu : ∀ c ∈ cells, c.under i = true) :
    ObjRep ((g.ren (boxF i)).grow b) w i (.cells cells) := by
  refine ⟨b, ?_, ?_, ?_, hu⟩
  · simp only [G.grow, G.ren]
    rw [List.getElem?_append_right (by omega), hlen]
    simp
  · show (g.O b).map _ = _
    rw [hO]
    rfl
  · have h1 : BlockRep (g.ren (boxF i)) w b (.oc i) cells := hB.ren (boxF i) (fun _ => rfl)
    have hO' : (g.ren (boxF i)).O b = some (.obj i) := by show (g.O b).map _ = _; rw [hO]; rfl
    exact h1.keep (Keep.grow _ w b) hO' id (fun _ => id)

theorem ref_new {i b : Nat} (hlen : g.β.length = i) (f : Own → Own) (off : Nat) (own : Own) (pl : Nat → Own) : PlRep ((g.ren f).grow b) w own pl (.ref i off) (.pointer (some ⟨b, off, none⟩)) := by
  refine .calm (.ref i off b ?_) ?_ rfl
  · simp only [G.grow, G.ren]
    rw [List.getElem?_append_right (by omega), hlen]
    simp
  · intro j u hj rows
    simp [V.cells] at hj
    obtain ⟨_, rfl⟩ := List.getElem?_eq_some_iff.1 hj
    simp

theorem alloc_does (hi : Inv g s a w) {esc : Bool} {zero : List V} {t : TypeId} (hz : zeroIs P t zero = true) (ho : o.op = .alloc t) (h : runOp s (.alloc esc zero) = some (v, s')) : Does P g a w o v s' := by
  obtain ⟨i, z, h1, h2, h3⟩ := zeroIs_spec hz
  have hr : (execOp a.eval o).run P w = .ok (.value (.pointer (some ⟨w.heap.size, 0, none⟩))) (w.alloc (.cells z.cells t)) := by
    simp [execOp, ho, Instr.alloc, run_zeroValue h1 h2, newVar, newRow]
  have hgr := Grown.alloc w (.cells z.cells t)
  have hi1 := hgr.inv hi (some .pbox) 0
  have hB : BlockRep (g.new w.heap.size (some .pbox) 0) (w.alloc (.cells z.cells t)) w.heap.size .pend zero := by
    obtain ⟨k1, k2⟩ := consts_rep (g := g.new w.heap.size (some .pbox) 0) (w := w.alloc (.cells z.cells t)) h3
    refine ⟨by simp [G.new], z.cells, t, (0, 0), hgr.new, by simpa using k1, .inl rfl, fun j u hj => ?_⟩
    obtain ⟨m1, m2, m3, _⟩ := k2 j u hj
    have e : z.cells.toList.getD j Go.undef = z.cells.getD j Go.undef := by simp [List.getD_eq_getElem?_getD, Array.getD_eq_getD_getElem?]
    rw [e] at m2 m3
    exact ⟨m1, m2, m3 _⟩
  simp only [runOp] at h
  split at h
  · rename_i hd
    split at h
    · simp at h
      obtain ⟨rfl, rfl⟩ := h
      refine ⟨_, _, ((g.new w.heap.size (some .pbox) 0).ren (boxF s.heap.length)).grow w.heap.size, .inl hr, ?_, hi1.newObj (fun g' hg' => ?_), ?_⟩
      · exact (hgr.fr hi.fresh _ _).trans ((Fr.ren _ _ _).trans (Fr.grow _ _ _))
      · subst hg'
        exact objRep_of_block hi.heap.len.symm (by simp [G.new]) hB (fun c hc => datum_under (List.all_eq_true.1 hd c hc) _)
      · exact ref_new hi1.heap.len.symm _ _ _ _
    · simp at h
      obtain ⟨rfl, rfl⟩ := h
      exact ⟨_, _, _, .inl hr, hgr.fr hi.fresh _ _, hi1, ⟨_, rfl, by simp [G.new], hB⟩⟩
  · simp at h

theorem box_does (hi : Inv g s a w) {esc : Bool} {x : Src} {t : TypeId} {x' : Operand} (hx : chkSrc x x' = true) (ho : o.op = .box t x') (h : runOp s (.box esc x) = some (v, s')) : Does P g a w o v s' := by
  have hr : (execOp a.eval o).run P w = .ok (.value (.pointer (some ⟨w.heap.size, 0, none⟩))) (w.alloc (.cells (a.eval x').cells t)) := by
    simp [execOp, ho, Instr.box, newVar, newRow]
  have hgr := Grown.alloc w (.cells (a.eval x').cells t)
  obtain ⟨hi0, hpl⟩ := hi.take hx .pbox .pend
  have hnb := val_not_box s.env x (chkSrc_not_box hx)
  simp only [runOp] at h
  split at h
  · rename_i hcl
    obtain ⟨hsz, hcells⟩ := cells_pl (hgr.pl hi0.fresh (some .pbox) 0 hpl) hnb hcl
    have hi1 := hgr.inv hi0 (some .pbox) 0
    have hfr0 : Fr g w (g.ren (takeS s.env x .pend)) w := Fr.ren g w _
    generalize g.ren (takeS s.env x .pend) = g1 at *
    have hB : BlockRep (g1.new w.heap.size (some .pbox) 0) (w.alloc (.cells (a.eval x').cells t)) w.heap.size .pend (VVE.val s.env x).cells :=
      ⟨by simp [G.new], (a.eval x').cells, t, (0, 0), hgr.new, hsz, .inl rfl, fun j u hj => ⟨(hcells j u hj).1, (hcells j u hj).2.1, (hcells j u hj).2.2.1⟩⟩
    split at h
    · split at h
      · rename_i hun
        simp at h
        obtain ⟨rfl, rfl⟩ := h
        refine ⟨_, _, ((g1.new w.heap.size (some .pbox) 0).ren (boxF s.heap.length)).grow w.heap.size, .inl hr, ?_, ?_, ?_⟩
        · exact hfr0.trans ((hgr.fr hi0.fresh _ _).trans ((Fr.ren _ _ _).trans (Fr.grow _ _ _)))
        · refine hi1.newObj (fun g' hg' => ?_)
          subst hg'
          exact objRep_of_block hi1.heap.len.symm (by simp [G.new]) hB (under_cells hun)
        · exact ref_new hi1.heap.len.symm _ _ _ _
      · simp at h
    · simp at h
      obtain ⟨rfl, rfl⟩ := h
      exact ⟨_, _, _, .inl hr, hfr0.trans (hgr.fr hi0.fresh _ _), hi1, ⟨_, rfl, by simp [G.new], hB⟩⟩
  · simp at h

theorem mkmap_does (hi : Inv g s a w) {t : TypeId} (ho : o.op = .makeMap t none) (h : runOp s .mkmap = some (v, s')) : Does P g a w o v s' := by
  have hr : (execOp a.eval o).run P w = .ok (.value (.map (some w.heap.size))) (w.alloc (.map #[] 0)) := by
    simp [execOp, ho, Instr.makeMap]
  have hgr := Grown.alloc w (.map #[] 0)
  have hi1 := hgr.inv hi (some .pbox) 0
  simp only [runOp] at h
  simp at h
  obtain ⟨rfl, rfl⟩ := h
  refine ⟨_, _, ((g.new w.heap.size (some .pbox) 0).ren (boxF s.heap.length)).grow w.heap.size, .inl hr, ?_, ?_, ?_⟩
  · exact (hgr.fr hi.fresh _ _).trans ((Fr.ren _ _ _).trans (Fr.grow _ _ _))
  · refine hi1.newObj (fun g' hg' => ?_)
    subst hg'
    refine ⟨w.heap.size, ?_, ?_, by simp [G.new, G.ren, G.grow], rfl, 0, hgr.new⟩
    · simp only [G.grow, G.ren, G.new]
      rw [List.getElem?_append_right (by rw [hi.heap.len]; exact Nat.le_refl _), hi.heap.len]
      simp
    · show ((g.new w.heap.size (some .pbox) 0).O w.heap.size).map _ = _
      simp [G.new, boxF]
  · refine .calm (.mp s.heap.length w.heap.size ?_) ?_ rfl
    · simp only [G.grow, G.ren, G.new]
      rw [List.getElem?_append_right (by rw [hi.heap.len]; exact Nat.le_refl _), hi.heap.len]
      simp
    · intro j u hj rows
      simp [V.cells] at hj
      obtain ⟨_, rfl⟩ := List.getElem?_eq_some_iff.1 hj
      simp

theorem chkSrcs_spec : ∀ {xs : List Src} {ys : List Operand}, chkSrcs xs ys = true → ys.length = xs.length ∧ ∀ (j : Nat) (x : Src), xs[j]? = some x → ∃ y, ys[j]? = some y ∧ chkSrc x y = true
  | [], [], _ => ⟨rfl, by simp⟩
  | x :: xs, y :: ys, h => by
    simp only [chkSrcs, Bool.and_eq_true] at h
    obtain ⟨h1, h2⟩ := chkSrcs_spec h.2
    refine ⟨by simp [h1], fun j u hj => ?_⟩
    cases j with
    | zero => simp at hj; subst hj; exact ⟨y, rfl, h.1⟩
    | succ j => simpa using h2 j u (by simpa using hj)
  | [], _ :: _, h => by simp [chkSrcs] at h
  | _ :: _, [], h => by simp [chkSrcs] at h

theorem Inv.seeAll (hi : Inv g s a w) {xs : List Src} {ys : List Operand} (h : chkSrcs xs ys = true) (hg : (xs.map fun x => (VVE.val s.env x).share).all V.goes = true) :
    (ys.map a.eval).length = (xs.map fun x => (VVE.val s.env x).share).length ∧
      ∀ (j : Nat) (v : V), (xs.map fun x => (VVE.val s.env x).share)[j]? = some v → g.Rep w v ((ys.map a.eval).getD j Go.undef) := by
  obtain ⟨h1, h2⟩ := chkSrcs_spec h
  refine ⟨by simp [h1], fun j v hj => ?_⟩
  have hgv : v.goes = true := List.all_eq_true.1 hg v (List.mem_of_getElem? hj)
  simp only [List.getElem?_map, Option.map_eq_some_iff] at hj
  obtain ⟨x, hx, rfl⟩ := hj
  obtain ⟨y, hy, hc⟩ := h2 j x hx
  rw [List.getD_eq_getElem?_getD, List.getElem?_map, hy]
  exact (hi.look hc .pbox .pend).rep hgv

theorem mkfn_does (hi : Inv g s a w) {f : Nat} {first cap : List Src} {fs cs : Array Operand} (hf : chkSrcs first fs.toList = true) (hc : chkSrcs cap cs.toList = true) (ho : o.op = .makeFunc (.func f) fs cs)
    (h : runOp s (.mkfn f first cap) = some (v, s')) : Does P g a w o v s' := by
  simp only [runOp] at h
  split at h
  · rename_i hg
    simp at h
    obtain ⟨rfl, rfl⟩ := h
    obtain ⟨l1, r1⟩ := hi.seeAll hf hg.1
    obtain ⟨l2, r2⟩ := hi.seeAll hc hg.2
    have hr : (execOp a.eval o).run P w = .ok (.value (.func (.func f) (fs.toList.map a.eval).toArray (cs.toList.map a.eval).toArray)) w := by
      simp [execOp, ho, Instr.makeFunc, ← List.map_toArray]
    refine .pure hi hr (.calm (.clo f _ _ _ _ l1 l2 r1 r2) ?_ rfl)
    intro j u hj rows
    simp [V.cells] at hj
    obtain ⟨_, rfl⟩ := List.getElem?_eq_some_iff.1 hj
    simp
  · simp at h

end
end Go.Proofs.YtflciaomdlgjpaaGreatDoor.VVE

namespace Go.Proofs.YtflciaomdlgjpaaGreatDoor.VVE

/-- A row of cells holds values, without rights. -/
def CRel (g : G) (w : World) (cs : List V) (c : Array Value) : Prop :=
  c.size = cs.length ∧ ∀ (j : Nat) (v : V), cs[j]? = some v → v.leaf = true ∧ g.Rep w v (c.getD j Go.undef) ∧ ∀ p, AppAt g w p v (c.getD j Go.undef)

theorem fold_writeAt (off : Nat) : ∀ (l : List Value) (k : Nat) (c : Array Value), (l.zipIdx k).foldl (fun cs (x : Value × Nat) => cs.setIfInBounds (off + x.2) x.1) c = writeAt c (off + k) l
  | [], _, _ => rfl
  | x :: l, k, c => by
    simp only [List.zipIdx_cons, List.foldl_cons, writeAt]
    rw [fold_writeAt off l (k + 1)]
    rfl

theorem fold_cells (off : Nat) (x : Value) (c : Array Value) : x.cells.zipIdx.foldl (fun cs (y : Value × Nat) => cs.setIfInBounds (off + y.2) y.1) c = writeAt c off x.cells.toList := by
  rw [← Array.foldl_toList, Array.toList_zipIdx]
  exact fold_writeAt off _ 0 c

theorem getD_writeAt (xs : List Value) (c : Array Value) (o j : Nat) (h : o + xs.length ≤ c.size) :
    (writeAt c o xs).getD j Go.undef = if o ≤ j ∧ j < o + xs.length then xs.getD (j - o) Go.undef else c.getD j Go.undef := by
  rw [Array.getD_eq_getD_getElem?, getElem?_writeAt xs c o j h]
  split
  · rw [List.getD_eq_getElem?_getD]
  · rw [Array.getD_eq_getD_getElem?]

theorem toList_getD (c : Array Value) (j : Nat) : c.toList.getD j Go.undef = c.getD j Go.undef := by
  simp [List.getD_eq_getElem?_getD, Array.getD_eq_getD_getElem?]

section
variable {P : Program} {g : G} {s s' : St} {a : Act} {w : World} {o : Oper} {v : V}

theorem CRel.write {cs new : List V} {c : Array Value} {off : Nat} {x : Value} (h : CRel g w cs c) (hle : off + new.length ≤ cs.length) (hs : x.cells.size = new.length)
    (hn : ∀ (j : Nat) (u : V), new[j]? = some u → u.leaf = true ∧ g.Rep w u (x.cells.getD j Go.undef) ∧ ∀ p, AppAt g w p u (x.cells.getD j Go.undef)) : CRel g w (splice cs off new) (writeAt c off x.cells.toList) := by
  obtain ⟨h1, h2⟩ := h
  refine ⟨by rw [size_writeAt, splice_length hle, h1], fun j v hj => ?_⟩
  have hl : x.cells.toList.length = new.length := by simpa using hs
  rw [getD_writeAt _ _ _ _ (by rw [hl, h1]; exact hle), hl, toList_getD]
  rw [splice_get hle] at hj
  split at hj
  · rename_i hr
    rw [if_pos hr]
    exact hn _ _ hj
  · rename_i hr
    rw [if_neg hr]
    exact h2 j v hj

theorem share_box {v : V} (h : ∀ cs, v ≠ .box cs) : ∀ cs, v.share ≠ .box cs := by
  intro cs
  cases v <;> simp [V.share]
  exact absurd rfl (h _)

theorem Inv.part (hi : Inv g s a w) {x : Src} {y : Operand} (hc : chkSrc x y = true) (hl : (VVE.val s.env x).share.cells.all V.leaf = true) :
    (a.eval y).cells.size = (VVE.val s.env x).share.cells.length ∧ ∀ (j : Nat) (u : V), (VVE.val s.env x).share.cells[j]? = some u → u.leaf = true ∧ g.Rep w u ((a.eval y).cells.getD j Go.undef) ∧ ∀ p, AppAt g w p u ((a.eval y).cells.getD j Go.undef) := by
  have hnb := val_not_box s.env x (chkSrc_not_box hc)
  obtain ⟨h1, h2⟩ := cells_pl (hi.look hc .pbox .pend) (share_box hnb) hl
  exact ⟨h1, fun j u hj => ⟨(h2 j u hj).1, (h2 j u hj).2.1, fun p => AppAt.calm (V.calm_share _ hnb j u hj)⟩⟩

theorem fill_build (hi : Inv g s a w) {fs : Array Field} {place : Nat → Option (Nat × Nat)} (hplace : ∀ (i : Nat) (f : Field) (n : Nat), fs[i]? = some f → sizeIs P f.type n = true → place i = some (f.offset, n)) :
    ∀ (ps : List (Nat × Nat × Src)) (qs : List (Nat × Operand)) (cs cs' : List V) (c : Array Value), chkParts P fs ps qs = true → CRel g w cs c →
      fillCells cs (ps.map fun (o, n, x) => (o, n, (VVE.val s.env x).share)) = some cs' → ∃ c', Instr.fill place c (qs.map fun (i, x) => (i, a.eval x)) = some c' ∧ CRel g w cs' c'
  | [], [], cs, cs', c, _, hr, h => by
    simp [fillCells] at h
    subst h
    exact ⟨c, rfl, hr⟩
  | (off, n, x) :: ps, (i, y) :: qs, cs, cs', c, hc, hr, h => by
    simp only [chkParts, Bool.and_eq_true] at hc
    obtain ⟨hc1, hc2⟩ := hc
    split at hc1
    · rename_i f hf
      simp only [Bool.and_eq_true, beq_iff_eq] at hc1
      obtain ⟨⟨ho, hsz⟩, hx⟩ := hc1
      simp only [List.map_cons, fillCells] at h
      split at h
      · rename_i hcond
        obtain ⟨k1, k2, k3⟩ := hcond
        obtain ⟨m1, m2⟩ := hi.part hx k3
        have hw := hr.write (off := off) (new := (VVE.val s.env x).share.cells) (x := a.eval y) (by omega) m1 m2
        obtain ⟨c', e1, e2⟩ := fill_build hi hplace ps qs _ cs' _ hc2 hw h
        refine ⟨c', ?_, e2⟩
        simp only [List.map_cons, Instr.fill, hplace i f n hf hsz, ho]
        rw [if_neg (by simp [m1, k1, hr.1]; omega), fold_cells]
        exact e1
      · simp at h
    · simp at hc1
  | [], _ :: _, _, _, _, hc, _, _ => by simp [chkParts] at hc
  | _ :: _, [], _, _, _, hc, _, _ => by simp [chkParts] at hc

theorem places_spec : ∀ (fs : List Field) (places : List (Nat × Nat)), fs.mapM (fun f => (P.info? f.type).map fun i => (f.offset, i.size)) = some places →
    ∀ (i : Nat) (f : Field) (n : Nat), fs[i]? = some f → sizeIs P f.type n = true → places[i]? = some (f.offset, n)
  | [], _, _ => by simp
  | f0 :: fs, places, h => by
    simp only [List.mapM_cons, Option.bind_eq_bind, Option.pure_def] at h
    cases hi : P.info? f0.type with
    | none => simp [hi] at h
    | some i0 =>
      cases hr : fs.mapM (fun f => (P.info? f.type).map fun i => (f.offset, i.size)) with
      | none => simp [hi, hr] at h
      | some rest =>
        simp [hi, hr] at h
        subst h
        intro i f n hf hsz
        cases i with
        | zero =>
          simp at hf
          subst hf
          obtain ⟨i1, h1, h2⟩ := sizeIs_spec hsz
          rw [hi] at h1
          cases h1
          simp [h2]
        | succ i =>
          simp only [List.getElem?_cons_succ] at hf ⊢
          exact places_spec fs rest hr i f n hf hsz

theorem CRel.pl {cs : List V} {c : Array Value} (h : CRel g w cs c) (own : Own) (pl : Nat → Own) : PlRep g w own pl (.agg cs) (.agg c) := by
  have e : c = c.toList.toArray := by simp
  refine (PlRep.solid rfl).2 ⟨?_, fun j u hj => ?_⟩
  · rw [e]
    exact .agg cs c.toList (by simpa using h.1) (fun j v hj => by rw [toList_getD]; exact (h.2 j v hj).2.1)
  · exact (h.2 j u hj).2.2 _

/-- A row of cells holds values, with their rights. -/
def CTak (g : G) (w : World) (cs : List V) (c : Array Value) : Prop :=
  c.size = cs.length ∧ ∀ (j : Nat) (v : V), cs[j]? = some v → v.leaf = true ∧ g.Rep w v (c.getD j Go.undef) ∧ AppAt g w (.pend j) v (c.getD j Go.undef)

theorem CTak.ren {cs : List V} {c : Array Value} (h : CTak g w cs c) (f : Own → Own) (hf : ∀ j, f (.pend j) = .pend j) : CTak (g.ren f) w cs c :=
  ⟨h.1, fun j v hj => ⟨(h.2 j v hj).1, (h.2 j v hj).2.1, (h.2 j v hj).2.2.ren' f (hf j)⟩⟩

theorem CTak.write {cs new : List V} {c : Array Value} {off : Nat} {x : Value} (h : CTak g w cs c) (hle : off + new.length ≤ cs.length) (hs : x.cells.size = new.length)
    (hn : ∀ (j : Nat) (u : V), new[j]? = some u → u.leaf = true ∧ g.Rep w u (x.cells.getD j Go.undef) ∧ AppAt g w (.pend (off + j)) u (x.cells.getD j Go.undef)) :
    CTak g w (splice cs off new) (writeAt c off x.cells.toList) := by
  obtain ⟨h1, h2⟩ := h
  refine ⟨by rw [size_writeAt, splice_length hle, h1], fun j v hj => ?_⟩
  have hl : x.cells.toList.length = new.length := by simpa using hs
  rw [getD_writeAt _ _ _ _ (by rw [hl, h1]; exact hle), hl, toList_getD]
  rw [splice_get hle] at hj
  split at hj
  · rename_i hr
    rw [if_pos hr]
    have := hn _ _ hj
    rwa [show off + (j - off) = j by omega] at this
  · rename_i hr
    rw [if_neg hr]
    exact h2 j v hj

theorem CTak.pl {cs : List V} {c : Array Value} (h : CTak g w cs c) : PlRep g w .pbox .pend (.agg cs) (.agg c) := by
  have e : c = c.toList.toArray := by simp
  refine (PlRep.solid rfl).2 ⟨?_, fun j u hj => ?_⟩
  · rw [e]
    exact .agg cs c.toList (by simpa using h.1) (fun j v hj => by rw [toList_getD]; exact (h.2 j v hj).2.1)
  · exact (h.2 j u hj).2.2

theorem fill_take {fs : Array Field} {place : Nat → Option (Nat × Nat)} (hplace : ∀ (i : Nat) (f : Field) (n : Nat), fs[i]? = some f → sizeIs P f.type n = true → place i = some (f.offset, n)) :
    ∀ (ps : List (Nat × Nat × Src)) (qs : List (Nat × Operand)) (cs cs' env' : List V) (c : Array Value) (g : G) (s : St), Inv g s a w → chkParts P fs ps qs = true → CTak g w cs c →
      fillTake cs s.env ps = some (cs', env') →
      ∃ c' f, Instr.fill place c (qs.map fun (i, x) => (i, a.eval x)) = some c' ∧ CTak (g.ren f) w cs' c' ∧ Inv (g.ren f) { s with env := env' } a w
  | [], [], cs, cs', env', c, g, s, hi, _, hr, h => by
    simp [fillTake] at h
    obtain ⟨rfl, rfl⟩ := h
    exact ⟨c, id, rfl, by rw [G.ren_id]; exact hr, by rw [G.ren_id]; exact hi⟩
  | (off, n, x) :: ps, (i, y) :: qs, cs, cs', env', c, g, s, hi, hc, hr, h => by
    simp only [chkParts, Bool.and_eq_true] at hc
    obtain ⟨hc1, hc2⟩ := hc
    split at hc1
    · rename_i f hf
      simp only [Bool.and_eq_true, beq_iff_eq] at hc1
      obtain ⟨⟨ho, hsz⟩, hx⟩ := hc1
      simp only [fillTake] at h
      split at h
      · rename_i hcond
        obtain ⟨k1, k2, k3⟩ := hcond
        obtain ⟨hi', hpl⟩ := hi.take hx .pbox (fun j => .pend (off + j))
        obtain ⟨m1, m2⟩ := cells_pl hpl (val_not_box s.env x (chkSrc_not_box hx)) k3
        have hr' := hr.ren (takeS s.env x fun j => .pend (off + j)) (fun j => takeS_fix _ _ _ _ (by simp))
        have hw := hr'.write (off := off) (new := (VVE.val s.env x).cells) (x := a.eval y) (by omega) m1 (fun j u hj => ⟨(m2 j u hj).1, (m2 j u hj).2.1, (m2 j u hj).2.2.1⟩)
        obtain ⟨c', f', e1, e2, e3⟩ := fill_take hplace ps qs _ cs' env' _ _ _ hi' hc2 hw h
        refine ⟨c', f' ∘ takeS s.env x fun j => .pend (off + j), ?_, ?_, ?_⟩
        · simp only [List.map_cons, Instr.fill, hplace i f n hf hsz, ho]
          rw [if_neg (by simp [m1, k1, hr.1]; omega), fold_cells]
          exact e1
        · have : g.ren (f' ∘ takeS s.env x fun j => .pend (off + j)) = (g.ren (takeS s.env x fun j => .pend (off + j))).ren f' := by simp [G.ren, Option.map_map]
          rw [this]; exact e2
        · have : g.ren (f' ∘ takeS s.env x fun j => .pend (off + j)) = (g.ren (takeS s.env x fun j => .pend (off + j))).ren f' := by simp [G.ren, Option.map_map]
          rw [this]; exact e3
      · simp at h
    · simp at hc1
  | [], _ :: _, _, _, _, _, _, _, _, hc, _, _ => by simp [chkParts] at hc
  | _ :: _, [], _, _, _, _, _, _, _, hc, _, _ => by simp [chkParts] at hc

theorem build_does (hi : Inv g s a w) {take : Bool} {zero : List V} {parts : List (Nat × Nat × Src)} {t : TypeId} {ps : Array (Nat × Operand)} {fs : Array Field} (ht : P.underlying t = some (.struct fs))
    (hp : (fs.toList.mapM (fun f => (P.info? f.type).map fun i => (f.offset, i.size))).isSome = true) (hz : zeroIs P t zero = true)
    (hc : chkParts P fs parts ps.toList = true) (ho : o.op = .build t ps) (h : runOp s (.build take zero parts) = some (v, s')) : Does P g a w o v s' := by
  obtain ⟨i, z, h1, h2, h3⟩ := zeroIs_spec hz
  obtain ⟨places, hpl⟩ := Option.isSome_iff_exists.1 hp
  have h0 : CRel g w zero z.cells := by
    obtain ⟨k1, k2⟩ := consts_rep (g := g) (w := w) h3
    refine ⟨by simpa using k1, fun j u hj => ?_⟩
    obtain ⟨m1, m2, m3, _⟩ := k2 j u hj
    rw [toList_getD] at m2 m3
    exact ⟨m1, m2, m3⟩
  have hplace : ∀ (i : Nat) (f : Field) (n : Nat), fs[i]? = some f → sizeIs P f.type n = true → places.toArray[i]? = some (f.offset, n) :=
    fun i f n hf hsz => by simpa using places_spec (P := P) fs.toList places hpl i f n (by simpa using hf) hsz
  cases take with
  | true =>
    simp only [runOp, if_true, Option.map_eq_some_iff] at h
    obtain ⟨⟨cs, env'⟩, hcs, h⟩ := h
    cases h
    obtain ⟨c, f, e1, e2, e3⟩ := fill_take (place := (places.toArray[·]?)) hplace parts ps.toList zero cs env' z.cells g s hi hc ⟨h0.1, fun j v hj => ⟨(h0.2 j v hj).1, (h0.2 j v hj).2.1, (h0.2 j v hj).2.2 _⟩⟩ hcs
    have hb : P.built t (ps.map fun (i, x) => (i, a.eval x)).toList = some c := by
      unfold Program.built
      simp only [h1, ht, h2, hpl]
      simpa using e1
    refine ⟨.agg c, w, g.ren f, .inl ?_, Fr.ren g w f, e3, e2.pl⟩
    simp only [execOp, ho, Sem.run_bind]
    rw [run_build w t _ c hb]
    simp
  | false =>
  simp only [runOp, Bool.false_eq_true, if_false, Option.map_eq_some_iff] at h
  obtain ⟨cs, hcs, h⟩ := h
  cases h
  obtain ⟨c, e1, e2⟩ := fill_build hi (place := (places.toArray[·]?)) hplace parts ps.toList zero cs z.cells hc h0 hcs
  have hb : P.built t (ps.map fun (i, x) => (i, a.eval x)).toList = some c := by
    unfold Program.built
    simp only [h1, ht, h2, hpl]
    simpa using e1
  refine .pure hi (x := .agg c) ?_ (e2.pl _ _)
  simp only [execOp, ho, Sem.run_bind]
  rw [run_build w t _ c hb]
  simp

/- ROWS -/

def RRel (g : G) (w : World) (sz : Nat) (rows : List V) (c : Array Value) : Prop :=
  c.size = rows.length * sz ∧ ∀ (i : Nat) (row : V), rows[i]? = some row → row.cells.length = sz ∧ ∀ (j : Nat) (v : V), row.cells[j]? = some v → v.datum = true ∧ RepD w.cell? g.U v (c.getD (i * sz + j) Go.undef)

theorem datum_repD {u : V} {x : Value} (hd : u.datum = true) (h : g.Rep w u x) : RepD w.cell? g.U u x := by
  cases h with
  | datum _ _ h => exact h
  | ptr0 => simp [V.datum] at hd
  | ref => simp [V.datum] at hd
  | mp => simp [V.datum] at hd
  | eptr => simp [V.datum] at hd
  | clo => simp [V.datum] at hd
  | agg => simp [V.datum] at hd
  | tup => simp [V.datum] at hd
  | undef => simp [V.datum] at hd

theorem datum_share1 {u : V} (h : u.datum = true) : u.share1.datum = true := by cases u <;> simp_all [V.datum, V.share1]

theorem share2_cells {v : V} (hb : ∀ cs, v ≠ .box cs) (ht : ∀ vs, v ≠ .tup vs) : v.share2.cells = v.cells.map V.share1 := by
  cases v <;> first | rfl | exact absurd rfl (hb _) | exact absurd rfl (ht _)

theorem rowOf_spec {v r : V} {sz : Nat} (h : rowOf v sz = some r) (hb : ∀ cs, v ≠ .box cs) : v.cells.length = sz ∧ v.cells.all V.datum = true ∧ r.cells = v.cells.map V.share1 := by
  unfold rowOf at h
  split at h
  · rename_i hc
    simp at h
    subst h
    refine ⟨hc.1, hc.2, share2_cells hb ?_⟩
    rintro vs rfl
    have := hc.2
    simp [V.cells, V.datum] at this
  · simp at h

theorem all_datum_leaf {l : List V} (h : l.all V.datum = true) : l.all V.leaf = true := by
  rw [List.all_eq_true] at h ⊢
  exact fun x hx => datum_leaf (h x hx)

theorem fill_rows (hi : Inv g s a w) {sz : Nat} (hsz : 0 < sz) :
    ∀ (ps : List (Nat × Src)) (qs : List (Nat × Operand)) (rows rows' : List V) (c : Array Value), chkElems ps qs = true → RRel g w sz rows c →
      fillRows sz rows (ps.map fun (i, x) => (i, VVE.val s.env x)) = some rows' → ∃ c', Instr.fill (fun i => some (i * sz, sz)) c (qs.map fun (i, x) => (i, a.eval x)) = some c' ∧ RRel g w sz rows' c' ∧ rows'.length = rows.length
  | [], [], rows, rows', c, _, hr, h => by
    simp [fillRows] at h
    subst h
    exact ⟨c, rfl, hr, rfl⟩
  | (i, x) :: ps, (i', y) :: qs, rows, rows', c, hc, hr, h => by
    simp only [chkElems, Bool.and_eq_true, beq_iff_eq] at hc
    obtain ⟨⟨rfl, hx⟩, hc2⟩ := hc
    simp only [List.map_cons, fillRows] at h
    split at h
    · rename_i r hrow
      split at h
      · rename_i hlt
        have hnb := val_not_box s.env x (chkSrc_not_box hx)
        obtain ⟨k1, k2, k3⟩ := rowOf_spec hrow hnb
        obtain ⟨own, pl, hpl, _⟩ := hi.val hx
        obtain ⟨m1, m2⟩ := cells_pl hpl hnb (all_datum_leaf k2)
        have hb : i * sz + sz ≤ rows.length * sz := mul_add_le hlt
        have hw : RRel g w sz (rows.set i r) (writeAt c (i * sz) (a.eval y).cells.toList) := by
          refine ⟨by rw [size_writeAt, hr.1]; simp, fun i' row hi' => ?_⟩
          have hl : (a.eval y).cells.toList.length = sz := by simp [m1, k1]
          rw [List.getElem?_set] at hi'
          split at hi'
          · rename_i hii
            subst hii
            first | rw [if_pos hlt] at hi' | skip
            cases hi'
            refine ⟨by rw [k3]; simpa using k1, fun j v hj => ?_⟩
            rw [k3] at hj
            simp only [List.getElem?_map, Option.map_eq_some_iff] at hj
            obtain ⟨u, hu, rfl⟩ := hj
            have hjl : j < sz := by rw [← k1]; exact (List.getElem?_eq_some_iff.1 hu).1
            rw [getD_writeAt _ _ _ _ (by rw [hl, hr.1]; exact hb), hl, if_pos ⟨by omega, by omega⟩, toList_getD, show i * sz + j - i * sz = j by omega]
            have hd : u.datum = true := List.all_eq_true.1 k2 u (List.mem_of_getElem? hu)
            exact ⟨datum_share1 hd, (datum_repD hd (m2 j u hu).2.1).share1⟩
          · rename_i hii
            obtain ⟨n1, n2⟩ := hr.2 i' row hi'
            refine ⟨n1, fun j v hj => ?_⟩
            have hjl : j < sz := by rw [← n1]; exact (List.getElem?_eq_some_iff.1 hj).1
            rw [getD_writeAt _ _ _ _ (by rw [hl, hr.1]; exact hb), hl, if_neg]
            · exact n2 j v hj
            · rcases Nat.lt_or_gt_of_ne hii with h1 | h1
              · have := mul_add_le (sz := sz) h1
                omega
              · have := mul_add_le (sz := sz) h1
                omega
        obtain ⟨c', e1, e2, e3⟩ := fill_rows hi hsz ps qs _ rows' _ hc2 hw h
        refine ⟨c', ?_, e2, by rw [e3]; simp⟩
        simp only [List.map_cons, Instr.fill]
        rw [if_neg (by simp [m1, k1, hr.1]; omega), fold_cells]
        exact e1
      · simp at h
    · simp at h
  | [], _ :: _, _, _, _, hc, _, _ => by simp [chkElems] at hc
  | _ :: _, [], _, _, _, hc, _, _ => by simp [chkElems] at hc

theorem zeroRow_cells {zero : List V} (h : zero.all V.datum = true) : (zeroRow zero).cells = zero := by
  unfold zeroRow
  split
  · rename_i v
    simp at h
    cases v <;> first | rfl | simp [V.datum] at h
  · rfl

theorem zeros_rrel {zero : List V} {z : Array Value} {n sz : Nat} (hsz : 0 < sz) (hzs : zero.length = sz) (hzd : zero.all V.datum = true) (hz : chkConsts zero z.toList = true) :
    RRel g w sz (List.replicate n (zeroRow zero)) ((Array.range (n * sz)).map (z[· % z.size]!)) := by
  obtain ⟨k1, k2⟩ := consts_rep (g := g) (w := w) hz
  have hzz : z.size = sz := by rw [← hzs, ← k1]; simp
  refine ⟨by simp, fun i row hi => ?_⟩
  rw [List.getElem?_replicate] at hi
  split at hi
  · rename_i hin
    cases hi
    rw [zeroRow_cells hzd]
    refine ⟨hzs, fun j v hj => ?_⟩
    have hjl : j < sz := by rw [← hzs]; exact (List.getElem?_eq_some_iff.1 hj).1
    have hd : v.datum = true := List.all_eq_true.1 hzd v (List.mem_of_getElem? hj)
    have hlt := mul_add_lt hin hjl
    have hmod : (i * sz + j) % sz = j := by rw [Nat.mul_comm, Nat.mul_add_mod, Nat.mod_eq_of_lt hjl]
    have he : ((Array.range (n * sz)).map (z[· % z.size]!)).getD (i * sz + j) Go.undef = z.toList.getD j Go.undef := by
      rw [Array.getD_eq_getD_getElem?, Array.getElem?_map, Array.getElem?_range]
      simp only [hlt, if_true, Option.map_some, Option.getD_some, hzz, hmod]
      rw [toList_getD, Array.getD_eq_getD_getElem?, getElem!_pos z j (by omega), Array.getElem?_eq_getElem (by omega)]
      rfl
    rw [he]
    exact ⟨hd, datum_repD hd (k2 j v hj).2.1⟩
  · simp at hi

/-- A row of cells that is made anew is a slice that may be appended to. -/
theorem new_slice {w' : World} {rows : List V} {c : Array Value} {e : TypeId} {fr : Nat × Nat} {sz cap : Nat} (hf : Fresh g w) (hgr : Grown w w' w.heap.size (.cells c e fr)) (hfr : Unfrozen c fr)
    (hsz : ∀ (i : Nat) (row : V), rows[i]? = some row → row.cells.length = sz ∧ ∀ (j : Nat) (v : V), row.cells[j]? = some v → RepD w.cell? g.U v (c.getD (i * sz + j) Go.undef))
    (hcs : cap * sz ≤ c.size) (hl : rows.length ≤ cap) (app : Bool) (ha : app = true → rows = [] → cap = 0) :
    PlRep (g.new w.heap.size (some (.pend 0)) (rows.length * sz)) w' .pbox .pend (.sl app rows) (.slice (some ⟨w.heap.size, 0, none⟩) rows.length cap) := by
  have hk := hgr.keep hf (some (.pend 0)) (rows.length * sz)
  refine PlRep.sl (.sl app rows _ 0 cap sz (fun j => c.getD j Go.undef) hl (fun i row hi => (hsz i row hi).1) (fun j hj => ?_) (fun i row j v hi hj => ?_) (by simp [G.new])) (fun happ => ?_) rfl
  · rw [cell_of hgr.new, Nat.zero_add]
    refine getD_some ?_
    have := Nat.mul_le_mul_right sz hl
    omega
  · exact ((hsz i row hi).2 j v hj).mono hk.pub hk.U
  · intro rows' hv base len cap' hx
    cases hv; cases hx
    by_cases hr : rows = []
    · exact .inl ⟨hr, ha happ hr⟩
    · refine .inr ⟨_, 0, sz, c, e, fr, rfl, hr, fun row hrow => ?_, by simp [G.new], by simp [G.new], hgr.new, by omega, hfr⟩
      obtain ⟨i, hi⟩ := List.mem_iff_getElem?.1 hrow
      exact (hsz i row hi).1

theorem bslice_does (hi : Inv g s a w) {sz len : Nat} {zero : List V} {parts : List (Nat × Src)} {t e : TypeId} {ps : Array (Nat × Operand)} (ht : P.underlying t = some (.slice e)) (hz : zeroIs P e zero = true)
    (hs : sizeIs P e sz = true) (hsz : 0 < sz) (hlim : len * sz ≤ 2 ^ 24) (hc : chkElems parts ps.toList = true) (ho : o.op = .buildSlice t len ps) (h : runOp s (.bslice sz zero len parts) = some (v, s')) : Does P g a w o v s' := by
  simp only [runOp] at h
  split at h
  · rename_i hcond
    simp only [Option.map_eq_some_iff] at h
    obtain ⟨rows, hrows, h⟩ := h
    cases h
    obtain ⟨i, z, h1, h2, h3⟩ := zeroIs_spec hz
    obtain ⟨c, e1, e2, e3⟩ := fill_rows hi hsz parts ps.toList _ rows _ hc (zeros_rrel (n := len) hsz hcond.1 hcond.2 h3) hrows
    have hlen : rows.length = len := by rw [e3]; simp
    have hgr := Grown.alloc w (.cells c e)
    have hr : (execOp a.eval o).run P w = .ok (.value (.slice (some ⟨w.heap.size, 0, none⟩) len len)) (w.alloc (.cells c e)) := by
      have hlim' : ¬ (len * sz > 16777216) := by omega
      simp only [execOp, ho, Sem.run_bind, Instr.buildSlice, run_underlying ht, Result.andThen_ok, run_sizeOf hs, hlim', if_false]
      have key : ∀ zz : Array Value, (len * sz = 0 ∨ zz = z.cells) → Instr.fill (fun i => some (i * sz, sz)) ((Array.range (len * sz)).map (zz[· % zz.size]!)) (ps.map fun (i, x) => (i, a.eval x)).toList = some c := by
        intro zz hzz
        rw [Array.toList_map]
        rcases hzz with h0 | rfl
        · rw [h0] at e1 ⊢
          have e0 : ∀ f : Nat → Value, (Array.range 0).map f = #[] := fun f => by simp [Array.range_zero']
          rw [e0] at e1 ⊢
          exact e1
        · exact e1
      by_cases h0 : len * sz = 0
      · have k0 := key #[] (.inl h0)
        simp only [if_pos h0, pure_bind]
        revert k0
        generalize (Array.map (fun x => (#[] : Array Value)[x % (#[] : Array Value).size]!) (Array.range (len * sz))) = arr
        intro k0
        have k1 : Instr.fill (fun i => some (i * sz, sz)) arr (ps.map fun x => (x.fst, a.eval x.snd)).toList = some c := k0
        simp [newRow] at k1 ⊢
        simp [k1]
      · simp only [if_neg h0, Sem.run_bind, run_zeroValue h1 h2, Sem.run_pure, Result.andThen_ok]
        rw [key z.cells (.inr rfl)]
        simp [newRow]
    subst hlen
    refine ⟨_, _, _, .inl hr, hgr.fr hi.fresh _ _, hgr.inv hi _ _, new_slice (sz := sz) hi.fresh hgr (.inl rfl) (fun i row hi => ⟨(e2.2 i row hi).1, fun j v hj => ((e2.2 i row hi).2 j v hj).2⟩) (by rw [e2.1]; exact Nat.le_refl _) (Nat.le_refl _) true (fun _ hr => by simp [hr])⟩
  · simp at h

end
end Go.Proofs.YtflciaomdlgjpaaGreatDoor.VVE

