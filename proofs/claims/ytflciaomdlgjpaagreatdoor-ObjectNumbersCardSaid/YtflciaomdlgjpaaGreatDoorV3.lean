/-
  What each single operation does (second part), and what a step of a region does.
-/
import Derived.Test.YtflciaomdlgjpaaGreatDoorV2
import Derived.Laws.IdiomStrings
import Derived.Orders
set_option linter.unusedVariables false
set_option linter.unusedSimpArgs false
namespace Go.Proofs.YtflciaomdlgjpaaGreatDoor.VVE

theorem RepD.one {cell : Addr → Option Value} {U : Nat → Nat} {v : V} {x : Value} (h : RepD cell U v x) : x.oneCell' = true := by
  cases h <;> rfl

section
variable {P : Program} {g : G} {s s' : St} {a : Act} {w : World} {o : Oper} {v : V}

/-- What a second operand of append has, as a list of cells. -/
structure News (P : Program) (w : World) (g : G) (sz : Nat) (x : Value) (more : List V) (news : List Value) : Prop where
  len : news.length = more.length * sz
  lenOf : ∀ w0, (Builtin.lenOf x).run P w0 = .ok more.length w0
  first : ∀ w0 : World, w0.heap = w.heap → (Builtin.firstCells sz more.length x).run P w0 = .ok news.toArray w0
  rep : ∀ (i : Nat) (row : V), more[i]? = some row → row.cells.length = sz ∧ ∀ (j : Nat) (v : V), row.cells[j]? = some v → RepD w.cell? g.U v (news.getD (i * sz + j) Go.undef)

theorem rowsWide_any {sz : Nat} {p q : Bool} {rows : List V} (h : rowsWide sz (.sl p rows)) : rowsWide sz (.sl q rows) := by
  cases rows with
  | nil => trivial
  | cons r rs => exact h

theorem cell_congr {w w0 : World} (h : w0.heap = w.heap) : w0.cell? = w.cell? := by
  funext a
  simp [World.cell?, h]

theorem news_of {app : Bool} {rows : List V} {x : Value} {sz : Nat} (h : RepD w.cell? g.U (.sl app rows) x) (hw : rowsWide sz (.sl app rows)) : ∃ news, News P w g sz x rows news := by
  have hwide := h.wide hw
  cases h with
  | nil => exact ⟨[], by simp, fun w0 => by simp [Builtin.lenOf], fun w0 _ => by simp [Builtin.firstCells], by simp⟩
  | sl _ _ b off cap sz' c hc hw' hcell hd hu =>
    have hmul : rows.length * sz' = rows.length * sz := by
      cases rows with
      | nil => simp
      | cons r rs => rw [← hw' 0 r rfl, hwide 0 r rfl]
    refine ⟨(List.range (rows.length * sz)).map c, by simp, fun w0 => by simp [Builtin.lenOf], fun w0 h0 => ?_, fun i row hi => ⟨hwide i row hi, fun j v hj => ?_⟩⟩
    · simp only [Builtin.firstCells]
      refine run_loadCells (P := P) w0 ⟨b, off, none⟩ (rows.length * sz) c (fun j hj => ?_)
      rw [Addr.add_lit, cell_congr h0]
      exact hcell j (by omega)
    · have hi' : i < rows.length := (List.getElem?_eq_some_iff.1 hi).1
      have hjl : j < sz := by rw [← hwide i row hi]; exact (List.getElem?_eq_some_iff.1 hj).1
      have he : sz' = sz := by rw [← hw' i row hi, hwide i row hi]
      rw [range_getD (mul_add_lt hi' hjl)]
      have := hd i row j v hi hj
      rwa [he] at this

theorem bytes_news {z : ByteArray} {sz : Nat} (hw : rowsWide sz (.sl false (ofBytes z.data.toList))) : ∃ news, News P w g sz (.string z) (ofBytes z.data.toList) news := by
  have hz : z.data.toList.length = z.size := Array.length_toList
  have hl : (ofBytes z.data.toList).length = z.size := by simp [ofBytes, hz]
  by_cases h0 : z.data.toList = []
  · have hs : z.size = 0 := by rw [← hz, h0]; rfl
    refine ⟨[], by simp [hl, hs], fun w0 => by simp [Builtin.lenOf, hl], fun w0 _ => ?_, by simp [ofBytes, h0]⟩
    rw [hl, hs]
    simp [Builtin.firstCells]
  · have hsz : sz = 1 := by
      cases hq : z.data.toList with
      | nil => exact absurd hq h0
      | cons b bs =>
        rw [hq] at hw
        have : (V.int .u8 (b.toNat : Int)).cells.length = sz := hw
        simpa [V.cells] using this.symm
    subst hsz
    refine ⟨z.data.toList.map fun b => Value.int .u8 b.toNat, by simp [hl, hz], fun w0 => by simp [Builtin.lenOf, hl], fun w0 _ => ?_, fun i row hi => ?_⟩
    · rw [hl]
      simp only [Builtin.firstCells, Sem.run_pure]
      congr 1
      apply Array.ext'
      have : z.extract 0 z.size = z := by simp
      rw [this]
      simp
    · simp only [ofBytes, List.getElem?_map, Option.map_eq_some_iff] at hi
      obtain ⟨b, hb, rfl⟩ := hi
      refine ⟨rfl, fun j v hj => ?_⟩
      simp only [V.cells] at hj
      obtain ⟨hj0, rfl⟩ := List.getElem?_eq_some_iff.1 hj
      simp at hj0
      subst hj0
      rw [List.getD_eq_getElem?_getD, Nat.mul_one, Nat.add_zero, List.getElem?_map, hb]
      exact .int _ _

theorem News.one {sz : Nat} {x : Value} {more : List V} {news : List Value} (h : News P w g sz x more news) (hsz : 0 < sz) : ∀ y ∈ news, y.oneCell' = true := by
  intro y hy
  obtain ⟨k, hk⟩ := List.mem_iff_getElem?.1 hy
  have hkl : k < more.length * sz := by rw [← h.len]; exact (List.getElem?_eq_some_iff.1 hk).1
  have hi : k / sz < more.length := Nat.div_lt_of_lt_mul (by rw [Nat.mul_comm]; exact hkl)
  obtain ⟨h1, h2⟩ := h.rep (k / sz) _ (List.getElem?_eq_getElem hi)
  have hj : k % sz < sz := Nat.mod_lt _ hsz
  have h3 := h2 (k % sz) _ (List.getElem?_eq_getElem (by rw [h1]; exact hj))
  have he : k / sz * sz + k % sz = k := by rw [Nat.mul_comm]; exact Nat.div_add_mod k sz
  rw [he, List.getD_eq_getElem?_getD, hk] at h3
  exact h3.one

/-- What append's types have to be. -/
structure AppTypes (P : Program) (t u e : TypeId) (sz bytes : Nat) : Prop where
  t : P.underlying t = some (.slice e)
  u : ∃ d, P.underlying u = some d ∧ ∀ k, d ≠ .int k
  i : ∃ i z, P.info? e = some i ∧ i.size = sz ∧ i.bytes = bytes ∧ i.zero = some z ∧ z.cells.size = sz
  sz : 0 < sz

theorem isInt_false : ∀ d : TypeDesc, (∀ k, d ≠ .int k) → (match d with | TypeDesc.int _ => true | _ => false) = false := by
  intro d hd
  cases d <;> first | rfl | exact absurd rfl (hd _)

theorem run_append_in {t u ty e : TypeId} {sz bytes : Nat} (ht : AppTypes P t u e sz bytes) {base : Option Addr} {sLen sCap : Nat} {x : Value} {more : List V} {news : List Value} (hn : News P w g sz x more news)
    (hle : sLen + more.length ≤ sCap) {w' : World} (hst : (match base with | some a => storeCells (a.add (sLen * sz)) news | none => Pure.pure () : Sem Unit).run P w = .ok () w') :
    (Builtin.append_ #[t, u] ty #[.slice base sLen sCap, x]).run P w = .ok (.slice base (sLen + more.length) sCap) w' := by
  obtain ⟨d, hd, hdi⟩ := ht.u
  have hzf := isInt_false d hdi
  obtain ⟨i, z, hi, hs, hb, hz, hzs⟩ := ht.i
  have hsz : ∀ w0, (sizeOf e).run P w0 = .ok sz w0 := fun w0 => by simp [sizeOf, typeInfo, hi, hs]
  have hf := hn.first w rfl
  have hl := hn.lenOf
  simp only [Builtin.append_, List.getElem?_toArray, Sem.run_bind, run_underlying ht.t, run_underlying hd, Result.andThen_ok, hsz, Sem.run_pure, List.getElem?_cons_zero, List.getElem?_cons_succ]
  simp [hzf, hl, hle, hf]
  cases base with
  | none => simp at hst ⊢; rw [← hst]
  | some a =>
    simp at hst ⊢
    rw [hst]
    simp

theorem run_append_new {t u ty e : TypeId} {sz bytes : Nat} (ht : AppTypes P t u e sz bytes) {base : Option Addr} {sLen sCap : Nat} {x : Value} {rows more : List V} {olds news : List Value}
    (hs : News P w g sz (.slice base sLen sCap) rows olds) (hn : News P w g sz x more news) (hsl : sLen = rows.length)
    (hgt : sCap < sLen + more.length) (h1 : (sLen + more.length) * bytes ≤ 2 ^ 40) (h2 : sLen + more.length ≤ 2 ^ 40) :
    ∃ c, ∃ newCap, sLen + more.length ≤ newCap ∧ newCap * sz ≤ c.size ∧ (∀ k, k < olds.length → c.getD k Go.undef = olds.getD k Go.undef) ∧ (∀ k, k < news.length → c.getD (olds.length + k) Go.undef = news.getD k Go.undef) ∧
      (Builtin.append_ #[t, u] ty #[.slice base sLen sCap, x]).run P w = .ok (.slice (some ⟨w.heap.size, 0, none⟩) (sLen + more.length) newCap) (w.drew.alloc (.cells c e)) := by
  obtain ⟨d, hd, hdi⟩ := ht.u
  have hzf := isInt_false d hdi
  obtain ⟨i, z, hi, hsi, hb, hz, hzs⟩ := ht.i
  have hsz : ∀ w0, (sizeOf e).run P w0 = .ok sz w0 := fun w0 => by simp [sizeOf, typeInfo, hi, hsi]
  have hti : ∀ w0, (typeInfo e).run P w0 = .ok i w0 := fun w0 => by simp [typeInfo, hi]
  have hzv : ∀ w0, (zeroValue e).run P w0 = .ok z w0 := fun w0 => by simp [zeroValue, typeInfo, hi, hz]
  have hf := hn.first w.drew rfl
  have hfo := hs.first w.drew rfl
  rw [← hsl] at hfo
  have hl := hn.lenOf
  have hcapge : sLen + more.length ≤ grownCap w (sLen + more.length) sCap e := by
    exact Nat.le_add_right _ _
  have hnl := hn.len
  have hol := hs.len
  refine ⟨olds.toArray ++ news.toArray ++ Builtin.zeroCells z.cells (grownCap w (sLen + more.length) sCap e - (sLen + more.length)), grownCap w (sLen + more.length) sCap e, hcapge, ?_, fun k hk => ?_, fun k hk => ?_, ?_⟩
  · simp only [Array.size_append, List.size_toArray, hnl, hol, Builtin.zeroCells, Array.size_map, Array.size_range, hzs, ← hsl]
    have : grownCap w (sLen + more.length) sCap e * sz = (sLen + more.length) * sz + (grownCap w (sLen + more.length) sCap e - (sLen + more.length)) * sz := by rw [← Nat.add_mul]; congr 1; omega
    rw [Nat.add_mul] at this
    omega
  · simp only [Array.getD_eq_getD_getElem?, List.getD_eq_getElem?_getD]
    rw [Array.getElem?_append_left (by simp; omega), Array.getElem?_append_left (by simp; omega)]
    simp
  · simp only [Array.getD_eq_getD_getElem?, List.getD_eq_getElem?_getD]
    rw [Array.getElem?_append_left (by simp; omega), Array.getElem?_append_right (by simp)]
    simp
  · have hn1 : ¬ (sLen + more.length ≤ sCap) := by omega
    have h48 : ¬ (281474976710656 < Builtin.nextslicecap (sLen + more.length) sCap * i.bytes) := by
      have := growslice_fits (need := sLen + more.length) (old := sCap) (bytes := i.bytes) hgt (by rw [hb]; omega)
      omega
    have h63 : ¬ (((9223372036854775807 : Int) < (sLen : Int) + (more.length : Int)) ∧ i.bytes = 0) := by omega
    simp only [Builtin.append_, List.getElem?_toArray, Sem.run_bind, run_underlying ht.t, run_underlying hd, Result.andThen_ok, hsz, Sem.run_pure, List.getElem?_cons_zero, List.getElem?_cons_succ]
    simp [hzf, hl, hn1, hti, h63, h48, Question.forced, hf, hfo, hzv, newRow, grownCap]
    rw [← Array.append_assoc]
    simp [List.append_assoc]

theorem appendable_spec {u : V} {rows : List V} (h : appendable u = some rows) : u = .sl true rows ∨ u = .slt rows := by
  unfold appendable at h
  split at h <;> simp at h <;> subst h
  · exact .inl rfl
  · exact .inr rfl

theorem sl_val {rows : List V} {x : Value} (h : RepD w.cell? g.U (.sl true rows) x ∨ RepD w.cell? g.U (.slt rows) x) : ∃ base cap, x = .slice base rows.length cap ∧ RepD w.cell? g.U (.sl true rows) x ∧ (rows = [] ∨ ∃ b off, base = some ⟨b, off, none⟩) := by
  have key : ∀ app, RepD w.cell? g.U (.sl app rows) x → ∃ base cap, x = .slice base rows.length cap ∧ RepD w.cell? g.U (.sl true rows) x ∧ (rows = [] ∨ ∃ b off, base = some ⟨b, off, none⟩) := by
    intro app h
    cases h with
    | nil => exact ⟨none, 0, rfl, .nil _, .inl rfl⟩
    | sl _ _ b off cap sz c h1 h2 h3 h4 h5 => exact ⟨_, cap, rfl, .sl true rows b off cap sz c h1 h2 h3 h4 h5, .inr ⟨b, off, rfl⟩⟩
  rcases h with h | h
  · exact key true h
  · cases h with
    | slt _ base h => exact key false h

theorem append_does (hi : Inv g s a w) {sz bytes : Nat} {x y : Src} {t u e : TypeId} {x' y' : Operand} (hx : chkSrc x x' = true) (hy : chkSrc y y' = true) (ht : AppTypes P t u e sz bytes)
    (ho : o.op = .call { callee := .builtin .append, args := #[x', y'], argTypes := #[t, u] }) (h : runOp s (.append sz bytes x y) = some (v, s')) : Does P g a w o v s' := by
  simp only [runOp] at h
  split at h
  · rename_i rows more h1 h2
    split at h
    · rename_i hc
      obtain ⟨hb, hl40, hw1, hw2⟩ := hc
      simp at h
      obtain ⟨hv, rfl⟩ := h
      obtain ⟨hi1, hpl⟩ := hi.take hx .pbox .pend
      have hfr1 : Fr g w (g.ren (takeS s.env x .pend)) w := Fr.ren g w _
      have hy0 := hi.look hy .pbox .pend
      -- what is appended
      have hnews : ∃ news, News P w g sz (a.eval y') more news := by
        unfold rowsFor at h2
        split at h2
        · rename_i app rows' hq
          simp at h2
          subst h2
          rw [hq] at hy0
          exact news_of hy0.1.sl_inv hw2
        · rename_i l hq
          simp at h2
          subst h2
          rw [hq] at hy0
          obtain ⟨z, hz, rfl⟩ := hy0.1.str_inv
          rw [hz]
          exact bytes_news hw2
        · simp at h2
      obtain ⟨news, hn⟩ := hnews
      have hn : News P w (g.ren (takeS s.env x .pend)) sz (a.eval y') more news := ⟨hn.len, hn.lenOf, hn.first, hn.rep⟩
      generalize g.ren (takeS s.env x .pend) = g1 at *
      -- the slice itself
      have hsl : RepD w.cell? g1.U (.sl true rows) (a.eval x') ∨ RepD w.cell? g1.U (.slt rows) (a.eval x') := by
        rcases appendable_spec h1 with hq | hq
        · rw [hq] at hpl; exact .inl hpl.1.sl_inv
        · rw [hq] at hpl
          cases hpl.1 with | datum _ _ hd => exact .inr hd
      obtain ⟨base, cap, hxe, hrep, hbase⟩ := sl_val hsl
      obtain ⟨olds, hol⟩ := news_of (P := P) (sz := sz) hrep (rowsWide_any hw1)
      rw [hxe] at hol hrep hpl
      have hexec : ∀ r w', (Builtin.append_ #[t, u] o.type #[.slice base rows.length cap, a.eval y']).run P w = .ok r w' → (execOp a.eval o).run P w = .ok (.value r) w' := by
        intro r w' hr
        simp [execOp, ho, resolve, invoke, builtin, hxe, hr]
      by_cases hm : more = []
      · -- nothing is appended
        subst hm
        have hcap : rows.length ≤ cap := by
          cases hrep with
          | nil => simp
          | sl _ _ b off cap sz' c h1 _ _ _ _ => exact h1
        have hnil : news = [] := by
          have := hn.len
          simpa using this
        subst hnil
        have hrun := run_append_in (P := P) (ty := o.type) ht hn (base := base) (sLen := rows.length) (sCap := cap) (by simpa using hcap) (w' := w) (by cases base <;> simp [storeCells])
        refine ⟨_, w, g1, .inl (hexec _ _ hrun), hfr1, hi1, ?_⟩
        rcases appendable_spec h1 with hq | hq
        · rw [hq] at hpl hv
          simp at hv
          subst hv
          simpa using hpl
        · rw [hq] at hpl hv
          simp at hv
          subst hv
          simpa using hpl
      · have hv' : v = .sl true (rows ++ more) := by
          rw [← hv]
          simp [hm]
        subst hv'
        have hml : 0 < more.length := by
          cases more with
          | nil => exact absurd rfl hm
          | cons _ _ => simp
        -- either there is room that is ours, or a new row is made
        have hroom : rows.length + more.length ≤ cap → ∃ b off c ee fr, base = some ⟨b, off, none⟩ ∧ (∀ row ∈ rows, row.cells.length = sz) ∧ g1.O b = some (.pend 0) ∧ g1.U b = off + rows.length * sz ∧
            w.heap[b]? = some (.cells c ee fr) ∧ off + cap * sz ≤ c.size ∧ Unfrozen c fr := by
          intro hle
          rcases appendable_spec h1 with hq | hq
          · rw [hq] at hpl
            have hap := ((PlRep.solid rfl).1 hpl).2 0 _ rfl
            rcases hap rows rfl base rows.length cap rfl with ⟨hr0, hc0⟩ | ⟨b, off, sz', c, ee, fr, e1, e2, e3, e4, e5, e6, e7, e8⟩
            · omega
            · have hs : sz' = sz := by
                cases hrr : rows with
                | nil => exact absurd hrr e2
                | cons r rs =>
                  rw [hrr] at hw1 e3
                  have : r.cells.length = sz := hw1
                  rw [← this, e3 r (by simp)]
              subst hs
              exact ⟨b, off, c, ee, fr, e1, e3, e4, e5, e6, e7, e8⟩
          · rw [hq] at hpl
            cases hpl.1 with
            | datum _ _ hd => cases hd with | slt _ _ hd => omega
        by_cases hle : rows.length + more.length ≤ cap
        · obtain ⟨b, off, c, ee, fr, rfl, hwid, hO, hU, hh, hcs, hfz⟩ := hroom hle
          have hadd : (⟨b, off, none⟩ : Addr).add (rows.length * sz) = ⟨b, off + rows.length * sz, none⟩ := Addr.add_lit _ _ _
          have hmul : (rows.length + more.length) * sz ≤ cap * sz := Nat.mul_le_mul_right sz hle
          rw [Nat.add_mul] at hmul
          have hst := run_storeCells (P := P) news w b (off + rows.length * sz) 0 c ee fr hh hfz (by rw [hn.len]; omega) (hn.one ht.sz)
          have hrun := run_append_in (P := P) (ty := o.type) ht hn (base := some ⟨b, off, none⟩) (sLen := rows.length) (sCap := cap) hle (w' := _) (by simpa [hadd] using hst)
          have hlt : b < w.heap.size := (Array.getElem?_eq_some_iff.1 hh).1
          let g2 : G := { g1 with U := fun b' => if b' = b then off + (rows.length + more.length) * sz else g1.U b' }
          have hkeep : Keep (fun q => q = .pend 0) g1 w g2 (World.withBlock w b (.cells (writeAt c (off + rows.length * sz) news) ee fr)) := by
            refine Keep.withBlock hh hO (fun b' hb' => by simp [g2, hb']) ?_ (fun _ _ => rfl) (fun _ _ h => h) (fun j hj => ?_)
            · simp only [g2, if_true]
              rw [hU, Nat.add_mul]
              omega
            · rw [getElem?_writeAt _ _ _ _ (by rw [hn.len]; omega), if_neg (by rw [hU] at hj; omega)]
          have hfr2 : Fr g1 w g2 (World.withBlock w b (.cells (writeAt c (off + rows.length * sz) news) ee fr)) := by
            refine Fr.withBlock hh hO (fun b' hb' => by simp [g2, hb']) ?_ (fun _ _ => rfl) (fun _ _ h => h) (fun j hj => ?_)
            · simp only [g2, if_true]
              rw [hU, Nat.add_mul]
              omega
            · rw [getElem?_writeAt _ _ _ _ (by rw [hn.len]; omega), if_neg (by rw [hU] at hj; omega)]
          have hfresh : Fresh g2 (World.withBlock w b (.cells (writeAt c (off + rows.length * sz) news) ee fr)) := by
            refine ⟨fun b' hb' => ?_, fun b' hb' => hi1.fresh.O b' (by simpa using hb')⟩
            simp only [World.size_withBlock] at hb'
            have : b' ≠ b := by omega
            simp only [g2, this, if_false]
            exact hi1.fresh.U b' hb'
          refine ⟨_, _, g2, .inl (hexec _ _ hrun), hfr1.trans hfr2, hi1.keep hkeep rfl rfl hfresh (by simp) (by simp) (by simp) (by simp), ?_⟩
          have hh' : (World.withBlock w b (.cells (writeAt c (off + rows.length * sz) news) ee fr)).heap[b]? = some (.cells (writeAt c (off + rows.length * sz) news) ee fr) := by
            rw [World.heap_withBlock, if_pos ⟨rfl, hlt⟩]
          have hrowsw : ∀ (i : Nat) (row : V), (rows ++ more)[i]? = some row → row.cells.length = sz := by
            intro i row hir
            rcases Nat.lt_or_ge i rows.length with hil | hil
            · rw [List.getElem?_append_left hil] at hir
              exact hwid row (List.mem_of_getElem? hir)
            · rw [List.getElem?_append_right hil] at hir
              exact (hn.rep _ _ hir).1
          have hlen : (rows ++ more).length = rows.length + more.length := by simp
          rw [← hlen]
          have hextc : ∀ j, j < (rows ++ more).length * sz → (writeAt c (off + rows.length * sz) news)[off + j]? = some ((writeAt c (off + rows.length * sz) news).getD (off + j) Go.undef) := by
            intro j hj
            refine getD_some ?_
            rw [size_writeAt]
            rw [hlen, Nat.add_mul] at hj
            omega
          refine PlRep.sl (.sl true _ b off cap sz (fun j => (writeAt c (off + rows.length * sz) news).getD (off + j) Go.undef) (by rw [hlen]; exact hle) hrowsw (fun j hj => by rw [cell_of hh']; exact hextc j hj) (fun i row j v hir hj => ?_) ?_) (fun _ => ?_) rfl
          · have hjl : j < sz := by rw [← hrowsw i row hir]; exact (List.getElem?_eq_some_iff.1 hj).1
            rw [getD_writeAt _ _ _ _ (by rw [hn.len]; omega), hn.len]
            rcases Nat.lt_or_ge i rows.length with hil | hil
            · rw [List.getElem?_append_left hil] at hir
              have hlt2 := mul_add_lt hil hjl
              rw [if_neg (by omega)]
              cases hrep with
              | sl _ _ _ _ _ sz' c' k1 k2 k3 k4 k5 =>
                have hs : sz' = sz := by rw [← k2 i row hir, hwid row (List.mem_of_getElem? hir)]
                subst hs
                have h3 := k3 _ hlt2
                rw [cell_of hh] at h3
                have h4 := k4 i row j v hir hj
                have : c.getD (off + (i * sz' + j)) Go.undef = c' (i * sz' + j) := by rw [Array.getD_eq_getD_getElem?, h3]; rfl
                rw [this]
                exact h4.mono hkeep.pub hkeep.U
            · rw [List.getElem?_append_right hil] at hir
              have hil2 : i - rows.length < more.length := (List.getElem?_eq_some_iff.1 hir).1
              have hlt2 := mul_add_lt hil2 hjl
              have hsub : (i - rows.length) * sz = i * sz - rows.length * sz := Nat.sub_mul _ _ _
              have hge : rows.length * sz ≤ i * sz := Nat.mul_le_mul_right sz hil
              rw [if_pos (by omega)]
              have h4 := (hn.rep _ _ hir).2 j v hj
              have : off + (i * sz + j) - (off + rows.length * sz) = (i - rows.length) * sz + j := by omega
              rw [this]
              exact h4.mono hkeep.pub hkeep.U
          · simp only [g2, if_true, hlen]
            exact Nat.le_refl _
          · intro rows' hv2 base' len' cap' hx2
            cases hv2; cases hx2
            refine .inr ⟨b, off, sz, _, ee, fr, rfl, by simp [hm], fun row hrow => ?_, hO, by simp [g2], hh', by rw [size_writeAt]; exact hcs, by unfold Unfrozen at *; simpa using hfz⟩
            obtain ⟨i, hir⟩ := List.mem_iff_getElem?.1 hrow
            exact hrowsw i row hir
        · obtain ⟨c, newCap, k1, k2, k3, k4, hrun⟩ := run_append_new (P := P) (ty := o.type) ht hol hn rfl (by omega) hb hl40
          have hgr := Grown.drew w (.cells c e)
          have hlen : (rows ++ more).length = rows.length + more.length := by simp
          rw [← hlen] at hrun k1
          refine ⟨_, _, _, .inl (hexec _ _ hrun), hfr1.trans (hgr.fr hi1.fresh _ _), hgr.inv hi1 _ _, new_slice (sz := sz) hi1.fresh hgr (.inl rfl) (fun i row hir => ?_) k2 k1 true (fun _ hr => by simp [hm] at hr)⟩
          rcases Nat.lt_or_ge i rows.length with hil | hil
          · rw [List.getElem?_append_left hil] at hir
            obtain ⟨m1, m2⟩ := hol.rep i row hir
            refine ⟨m1, fun j v hj => ?_⟩
            have hjl : j < sz := by rw [← m1]; exact (List.getElem?_eq_some_iff.1 hj).1
            rw [k3 _ (by rw [hol.len]; exact mul_add_lt hil hjl)]
            exact m2 j v hj
          · rw [List.getElem?_append_right hil] at hir
            obtain ⟨m1, m2⟩ := hn.rep _ row hir
            refine ⟨m1, fun j v hj => ?_⟩
            have hjl : j < sz := by rw [← m1]; exact (List.getElem?_eq_some_iff.1 hj).1
            have hil2 : i - rows.length < more.length := (List.getElem?_eq_some_iff.1 hir).1
            have hsub : (i - rows.length) * sz = i * sz - rows.length * sz := Nat.sub_mul _ _ _
            have hge : rows.length * sz ≤ i * sz := Nat.mul_le_mul_right sz hil
            have := k4 ((i - rows.length) * sz + j) (by rw [hn.len]; exact mul_add_lt hil2 hjl)
            rw [hol.len, show rows.length * sz + ((i - rows.length) * sz + j) = i * sz + j by omega] at this
            rw [this]
            exact m2 j v hj
    · simp at h
  · simp at h

end
end Go.Proofs.YtflciaomdlgjpaaGreatDoor.VVE

namespace Go.Proofs.YtflciaomdlgjpaaGreatDoor.VVE

section
variable {P : Program} {g : G} {s s' : St} {a : Act} {w : World} {o : Oper} {v : V}

theorem field_does (hi : Inv g s a w) {off n : Nat} {agg : Bool} {x : Src} {t : TypeId} {x' : Operand} {i : Nat} {fs : Array Field} {f : Field} (hx : chkSrc x x' = true) (hs : P.underlying t = some (.struct fs))
    (hf : fs[i]? = some f) (hof : f.offset = off) (hsz : sizeIs P f.type n = true) (ha : aggOf P f.type = some agg) (hn : agg = true ∨ n = 1)
    (ho : o.op = .field t x' i) (h : runOp s (.field off n agg x) = some (v, s')) : Does P g a w o v s' := by
  simp only [runOp, Option.map_eq_some_iff] at h
  obtain ⟨u, hu, h⟩ := h
  cases h
  have hv := hi.look hx .pbox .pend
  have hnb := share_box (val_not_box s.env x (chkSrc_not_box hx))
  unfold vfield at hu
  split at hu
  · rename_i cs h1
    rw [h1] at hv hnb
    obtain ⟨xs, e1, hl, hr⟩ := hv.1.agg_inv
    simp only [Option.bind_eq_some_iff] at hu
    obtain ⟨ds, hds, hu⟩ := hu
    obtain ⟨k1, k2, k3⟩ := cut_spec hds
    have hcalm := V.calm_share (VVE.val s.env x) (val_not_box s.env x (chkSrc_not_box hx))
    rw [h1] at hcalm
    have hrep : ∀ (j : Nat) (q : V), ds[j]? = some q → q.leaf = true ∨ True := fun _ _ _ => .inr trivial
    have hpl : g.Rep w v (if agg then .agg ((List.range n).map fun j => xs.getD (off + j) Go.undef).toArray else xs.getD (off + 0) Go.undef) := rep_ofCells hu k2 (c := fun j => xs.getD (off + j) Go.undef) (fun j q hj => by
      have hjn : j < n := by rw [← k2]; exact (List.getElem?_eq_some_iff.1 hj).1
      rw [k3 j hjn] at hj
      exact hr _ _ hj)
    have hvc : v.calm := by
      intro j q hj rows hq
      unfold ofCells at hu
      cases agg with
      | true =>
        simp at hu
        subst hu
        have hjn : j < n := by rw [← k2]; exact (List.getElem?_eq_some_iff.1 hj).1
        simp only [V.cells] at hj
        rw [k3 j hjn] at hj
        exact hcalm _ _ (by simpa [V.cells] using hj) rows hq
      | false =>
        simp only [Bool.false_eq_true, if_false] at hu
        split at hu
        · rename_i _ q'
          split at hu
          · rename_i hleaf
            simp at hu
            subst hu
            have h0 : cs[off + 0]? = some q' := by
              have hn1 : n = 1 := by rw [← k2]; rfl
              rw [← k3 0 (by omega)]
              rfl
            have hc0 : q'.cells = [q'] := by cases q' <;> first | rfl | cases hleaf
            rw [hc0, List.getElem?_singleton] at hj
            split at hj
            · cases hj
              exact hcalm (off + 0) _ h0 rows hq
            · cases hj
          · simp at hu
        · simp at hu
    refine .pure hi ?_ (.calm hpl hvc (rep_not_box _ hpl))
    have hsz' : (sizeOf f.type).run P w = .ok n w := run_sizeOf hsz w
    cases agg with
    | true =>
      have hext : (xs.drop off).take n = (List.range n).map fun j => xs.getD (off + j) Go.undef := by
        apply List.ext_getElem?
        intro j
        rw [List.getElem?_take]
        simp only [List.getElem?_drop, List.getElem?_map]
        by_cases hj : j < n
        · rw [if_pos hj, List.getElem?_range hj, List.getElem?_eq_getElem (by omega)]
          simp only [Option.map_some, List.getD_eq_getElem?_getD]
          rw [List.getElem?_eq_getElem (by omega)]
          rfl
        · rw [if_neg hj, List.getElem?_eq_none (by simp; omega)]
          rfl
      simp only [if_true, ← hext]
      simp [execOp, ho, e1, Instr.field, run_underlying hs, hf, asAgg, part, aggOf_true ha, hsz', hof]
    | false =>
      have hn1 : n = 1 := by simpa using hn
      obtain ⟨z, hz⟩ : ∃ z, xs[off]? = some z := ⟨_, List.getElem?_eq_getElem (by omega)⟩
      have hzz : xs.getD (off + 0) Go.undef = z := by rw [List.getD_eq_getElem?_getD, Nat.add_zero, hz]; rfl
      simp only [Bool.false_eq_true, if_false, hzz]
      simp [execOp, ho, e1, Instr.field, run_underlying hs, hf, asAgg, part, aggOf_false ha, hof, hz]
  · simp at hu

theorem b2s_does (hi : Inv g s a w) {x : Src} {src dst e : TypeId} {x' : Operand} (hx : chkSrc x x' = true) (hs : P.underlying src = some (.slice e)) (he : P.underlying e = some (.int .u8)) (hd : P.underlying dst = some .string)
    (ho : o.op = .convert src dst x') (h : runOp s (.b2s x) = some (v, s')) : Does P g a w o v s' := by
  simp only [runOp] at h
  split at h
  · rename_i app rows h1
    simp only [Option.map_eq_some_iff] at h
    obtain ⟨l, hl, h⟩ := h
    cases h
    have e1 := hi.see hx (by rw [h1]; rfl); rw [h1] at e1; have e1 := e1.sl_inv
    have key : ∀ (rows : List V) (l : List UInt8), rows.mapM toByte = some l → rows.length = l.length ∧ ∀ (i : Nat) (b : UInt8), l[i]? = some b → rows[i]? = some (.int .u8 b.toNat) := by
      intro rows
      induction rows with
      | nil => intro l hl; simp at hl; subst hl; simp
      | cons r rs ih =>
        intro l hl
        simp only [List.mapM_cons, Option.bind_eq_bind, Option.bind_eq_some_iff, Option.pure_def, Option.some.injEq] at hl
        obtain ⟨b, hb, bs, hbs, rfl⟩ := hl
        obtain ⟨k1, k2⟩ := ih bs hbs
        refine ⟨by simp [k1], fun i b' hi' => ?_⟩
        cases i with
        | zero =>
          simp at hi'
          subst hi'
          unfold toByte at hb
          split at hb
          · rename_i n
            split at hb
            · rename_i hc
              simp at hb
              subst hb
              have : ((UInt8.ofNat n.toNat).toNat : Int) = n := by
                rw [UInt8.toNat_ofNat']
                have : n.toNat % 2 ^ 8 = n.toNat := Nat.mod_eq_of_lt (by omega)
                rw [this]
                omega
              rw [List.getElem?_cons_zero, this]
            · simp at hb
          · simp at hb
        | succ i => simpa using k2 i b' (by simpa using hi')
    obtain ⟨k1, k2⟩ := key rows l hl
    generalize hxe : a.eval x' = xe at e1
    cases e1 with
    | nil =>
      simp at k1
      have hl0 : l = [] := List.eq_nil_of_length_eq_zero k1.symm
      subst hl0
      refine .pure hi (x := .string .empty) ?_ (.calm (.datum _ _ (.str _ _ rfl)) (calm_str _) rfl)
      simp [execOp, ho, hxe, convert, run_underlying hs, run_underlying hd, run_underlying he, Conv.bytesToString]
    | sl _ _ b off cap sz c hc hw hcell hdd hu =>
      refine .pure hi (x := .string ⟨l.toArray⟩) ?_ (.calm (.datum _ _ (.str _ _ (by simp))) (calm_str _) rfl)
      have := run_convert_bytes_back (P := P) w src dst e ⟨b, off, none⟩ cap l hs he hd (fun j hj => by
        have hr := k2 j _ (List.getElem?_eq_getElem hj)
        have hs1 : sz = 1 := by rw [← hw _ _ hr]; rfl
        have h3 := hcell j (by rw [hs1, k1]; omega)
        rw [Addr.add_lit, h3]
        have h4 := hdd j _ 0 (.int .u8 (l[j].toNat : Int)) hr rfl
        rw [hs1, Nat.mul_one, Nat.add_zero] at h4
        generalize c j = y at h4 ⊢
        cases h4
        rfl)
      rw [k1] at hxe
      simp [execOp, ho, hxe, this]
  · simp at h

theorem s2b_does (hi : Inv g s a w) {x : Src} {src dst e : TypeId} {x' : Operand} (hx : chkSrc x x' = true) (hs : P.underlying src = some .string) (hd : P.underlying dst = some (.slice e)) (he : P.underlying e = some (.int .u8))
    (ho : o.op = .convert src dst x') (h : runOp s (.s2b x) = some (v, s')) : Does P g a w o v s' := by
  simp only [runOp] at h
  split at h
  · rename_i l h1
    simp at h
    obtain ⟨rfl, rfl⟩ := h
    have e1 := hi.see hx (by rw [h1]; rfl); rw [h1] at e1
    obtain ⟨z, e3, rfl⟩ := e1.str_inv
    have hz : z.data.toList.length = z.size := Array.length_toList
    have hr := run_bytes_of_string (P := P) w src dst e z hs hd he
    have hgr := Grown.drew w (.cells (bytesRow z (grownCap w z.size 0 e)) e ((bytesRow z (grownCap w z.size 0 e)).size, (bytesRow z (grownCap w z.size 0 e)).size + 1))
    have hcap : z.size ≤ grownCap w z.size 0 e := Nat.le_add_right _ _
    have hlen : (ofBytes z.data.toList).length = z.size := by simp [ofBytes, hz]
    have hsize : (bytesRow z (grownCap w z.size 0 e)).size = grownCap w z.size 0 e := by
      simp only [bytesRow, Array.size_append, Array.size_map, Array.size_replicate]
      have : z.data.size = z.size := rfl
      omega
    have hex : (execOp a.eval o).run P w = .ok (.value (.slice (some ⟨w.heap.size, 0, none⟩) z.size (grownCap w z.size 0 e)))
        (w.drew.alloc (.cells (bytesRow z (grownCap w z.size 0 e)) e ((bytesRow z (grownCap w z.size 0 e)).size, (bytesRow z (grownCap w z.size 0 e)).size + 1))) := by
      simp only [execOp, ho, Sem.run_bind, e3, hr, Result.andThen_ok, Sem.run_pure]
    refine ⟨_, _, g.new w.heap.size (some (.pend 0)) ((ofBytes z.data.toList).length * 1), .inl hex, hgr.fr hi.fresh _ _, hgr.inv hi _ _, ?_⟩
    have := new_slice (g := g) (w := w) (rows := ofBytes z.data.toList) (sz := 1) (cap := grownCap w z.size 0 e) hi.fresh hgr (.inr (Nat.le_refl _)) (fun i row hir => ?_) (by omega) (by omega) (!z.data.toList.isEmpty) (fun ha hr => by
      simp [ofBytes] at hr
      simp [hr] at ha)
    · generalize g.new w.heap.size (some (.pend 0)) ((ofBytes z.data.toList).length * 1) = gg at this ⊢
      rw [hlen] at this
      exact this
    · simp only [ofBytes, List.getElem?_map, Option.map_eq_some_iff] at hir
      obtain ⟨b, hb, rfl⟩ := hir
      refine ⟨rfl, fun j v hj => ?_⟩
      simp only [V.cells] at hj
      obtain ⟨hj0, rfl⟩ := List.getElem?_eq_some_iff.1 hj
      simp at hj0
      subst hj0
      have hib : i < z.data.size := by
        have := (List.getElem?_eq_some_iff.1 hb).1
        simpa using this
      rw [Nat.mul_one, Nat.add_zero, Array.getD_eq_getD_getElem?, bytesRow_at z _ i hib]
      have : z.data[i] = b := by
        have := (List.getElem?_eq_some_iff.1 hb).2
        simpa using this
      rw [this]
      exact .int _ _
  · simp at h

theorem same_does (hi : Inv g s a w) {x : Src} {t e : TypeId} {x' : Operand} (hx : chkSrc x x' = true) (ht : P.underlying t = some (.slice e)) (he : P.underlying e = some (.int .u8))
    (ho : o.op = .convert t t x') (h : runOp s (.same x) = some (v, s')) : Does P g a w o v s' := by
  simp only [runOp] at h
  split at h
  · rename_i rows h1
    split at h
    · simp at h
    · rename_i hne
      simp at h
      obtain ⟨rfl, rfl⟩ := h
      obtain ⟨hi1, hpl⟩ := hi.take hx .pbox .pend
      have hfr1 : Fr g w (g.ren (takeS s.env x .pend)) w := Fr.ren g w _
      generalize g.ren (takeS s.env x .pend) = g1 at *
      rw [h1] at hpl
      obtain ⟨hrep, hap⟩ := (PlRep.solid rfl).1 hpl
      have hap := hap 0 _ rfl
      obtain ⟨base, cap, hxe, hrd, hbase⟩ := sl_val (.inl hrep.sl_inv)
      rw [hxe] at hap hrd
      have hr0 : rows ≠ [] := by simpa using hne
      rcases hap rows rfl base rows.length cap rfl with ⟨h0, _⟩ | ⟨b, off, sz, c, ee, fr, rfl, e2, e3, e4, e5, e6, e7, e8⟩
      · exact absurd h0 hr0
      · have hlt : b < w.heap.size := (Array.getElem?_eq_some_iff.1 e6).1
        have hfz : ∃ fr', w.freeze ⟨b, c.size, none⟩ 1 = World.withBlock w b (.cells c ee fr') ∧ Unfrozen c fr' := by
          obtain ⟨lo, hi'⟩ := fr
          refine ⟨if lo == hi' then (c.size, c.size + 1) else (min lo c.size, max hi' (c.size + 1)), ?_, ?_⟩
          · simp only [World.freeze, World.withBlock]
            rw [if_neg (by decide)]
            congr 1
            apply Array.ext_getElem?
            intro i
            simp only [Array.getElem?_modify, Array.getElem?_setIfInBounds]
            by_cases hib : b = i
            · subst hib
              rw [e6]
              simp [hlt]
            · simp [hib]
          · unfold Unfrozen at e8 ⊢
            simp only at e8
            split
            · exact .inr (Nat.le_refl _)
            · rename_i hq
              simp at hq
              rcases e8 with e8 | e8
              · exact absurd e8 hq
              · exact .inr (by simp; omega)
        obtain ⟨fr', hfz, hun⟩ := hfz
        have hsh : w.shape? b = some (ee, c.size) := by simp [World.shape?, e6]
        have hrun : (execOp a.eval o).run P w = .ok (.value (.slice (some ⟨b, off, none⟩) rows.length cap)) (World.withBlock w b (.cells c ee fr')) := by
          simp [execOp, ho, hxe, convert, run_underlying ht, run_underlying he, markStringish, hsh, hfz]
        have hkeep : Keep (fun q => q = .pend 0) g1 w g1 (World.withBlock w b (.cells c ee fr')) :=
          Keep.withBlock e6 e4 (fun _ _ => rfl) (Nat.le_refl _) (fun _ _ => rfl) (fun _ _ h => h) (fun _ _ => rfl)
        have hfr2 : Fr g1 w g1 (World.withBlock w b (.cells c ee fr')) :=
          Fr.withBlock e6 e4 (fun _ _ => rfl) (Nat.le_refl _) (fun _ _ => rfl) (fun _ _ h => h) (fun _ _ => rfl)
        refine ⟨_, _, g1, .inl hrun, hfr1.trans hfr2, hi1.keep hkeep rfl rfl ⟨fun b' hb' => hi1.fresh.U b' (by simpa using hb'), fun b' hb' => hi1.fresh.O b' (by simpa using hb')⟩ (by simp) (by simp) (by simp) (by simp), ?_⟩
        refine PlRep.sl (hrd.mono hkeep.pub hkeep.U) (fun _ => ?_) rfl
        intro rows' hv2 base' len' cap' hx2
        cases hv2; cases hx2
        exact .inr ⟨b, off, sz, c, ee, fr', rfl, e2, e3, e4, e5, by rw [World.heap_withBlock, if_pos ⟨rfl, hlt⟩], e7, hun⟩
  · simp at h

theorem i64_small {m : Int} (h : 0 ≤ m ∧ m ≤ 1099511627776) : IntKind.i64.wrap m = m := by
  have h1 : m % (2 ^ IntKind.i64.bits : Int) = m := by
    show m % (18446744073709551616 : Int) = m
    omega
  have h2 : ¬ (m ≥ (2 ^ (IntKind.i64.bits - 1) : Int)) := by
    show ¬ (m ≥ (9223372036854775808 : Int))
    omega
  simp only [IntKind.wrap, h1]
  rw [if_neg]
  simpa [IntKind.signed] using h2

theorem mkslice_does (hi : Inv g s a w) {sz bytes : Nat} {zero : List V} {len cap : Src} {t e : TypeId} {len' cap' : Operand} (hl : chkSrc len len' = true) (hc : chkSrc cap cap' = true) (ht : P.underlying t = some (.slice e))
    (hz : zeroIs P e zero = true) (hs : sizeIs P e sz = true) (hb : ∃ i, P.info? e = some i ∧ i.bytes = bytes) (hsz : 0 < sz) (ho : o.op = .makeSlice t len' cap') (h : runOp s (.mkslice sz bytes zero len cap) = some (v, s')) : Does P g a w o v s' := by
  simp only [runOp] at h
  split at h
  · rename_i k n k' c h1 h2
    split at h
    · rename_i hcond
      obtain ⟨hn0, hnc, hcb, hzs, hc40, hzd⟩ := hcond
      simp only [Option.some.injEq, Prod.mk.injEq] at h
      obtain ⟨rfl, rfl⟩ := h
      have e1 := hi.see hl (by rw [h1]; rfl); rw [h1] at e1; have e1 := e1.int_inv
      have e2 := hi.see hc (by rw [h2]; rfl); rw [h2] at e2; have e2 := e2.int_inv
      obtain ⟨i, z, m1, m2, m3⟩ := zeroIs_spec hz
      obtain ⟨i', hi', hbi⟩ := hb
      rw [m1] at hi'
      cases hi'
      obtain ⟨nn, rfl⟩ := Int.eq_ofNat_of_zero_le hn0
      obtain ⟨cc, rfl⟩ := Int.eq_ofNat_of_zero_le (Int.le_trans hn0 hnc)
      have hw : ∀ m : Nat, (m : Int) ≤ 2 ^ 40 → IntKind.i64.wrap (m : Int) = (m : Int) := by
        intro m hm
        have h40 : (2 : Int) ^ 40 = 1099511627776 := by decide
        rw [h40] at hm
        exact i64_small (by omega)
      have hwc := hw cc hc40
      have hwn := hw nn (Int.le_trans hnc hc40)
      have hrr := zeros_rrel (g := g) (w := w) (n := cc) hsz hzs hzd m3
      have hgr := Grown.alloc w (.cells ((Array.range (cc * sz)).map (z.cells[· % z.cells.size]!)) e)
      have hlen : (List.replicate ((nn : Int).toNat) (zeroRow zero)).length = nn := by simp
      have hrun : (execOp a.eval o).run P w = .ok (.value (.slice (some ⟨w.heap.size, 0, none⟩) nn cc)) (w.alloc (.cells ((Array.range (cc * sz)).map (z.cells[· % z.cells.size]!)) e)) := by
        have hti : (typeInfo e).run P w = .ok i w := by simp [typeInfo, m1]
        have hbig : ¬ ((281474976710656 : Int) < (i.bytes : Int) * (cc : Int)) := by
          rw [hbi]
          have : (cc : Int) * (bytes : Int) ≤ 2 ^ 40 := hcb
          have h40 : (2 : Int) ^ 40 = 1099511627776 := by decide
          rw [h40, Int.mul_comm] at this
          omega
        have hcc0 : ¬ ((cc : Int) < 0) := by omega
        have hnn0 : ¬ ((nn : Int) < 0) := by omega
        have hncc : ¬ ((cc : Int) < (nn : Int)) := by omega
        by_cases h0 : cc * sz = 0
        · simp [execOp, ho, e1, e2, Instr.makeSlice, run_underlying ht, asInt, asIntOf, hti, hwc, hwn, hbig, hcc0, hnn0, hncc, run_sizeOf hs, newRow, h0, Array.range_zero']
        · simp [execOp, ho, e1, e2, Instr.makeSlice, run_underlying ht, asInt, asIntOf, hti, hwc, hwn, hbig, hcc0, hnn0, hncc, run_sizeOf hs, newRow, h0, run_zeroValue m1 m2]
      have hnew := new_slice (g := g) (w := w) (rows := List.replicate ((nn : Int).toNat) (zeroRow zero)) (sz := sz) (cap := cc) hi.fresh hgr (.inl rfl) (fun i row hir => by
        have hir' : (List.replicate cc (zeroRow zero))[i]? = some row := by
          rw [List.getElem?_replicate] at hir ⊢
          split at hir
          · rename_i hin
            simp at hin
            rw [if_pos (by omega)]
            exact hir
          · simp at hir
        exact ⟨(hrr.2 i row hir').1, fun j v hj => ((hrr.2 i row hir').2 j v hj).2⟩) (by rw [hrr.1]; simp) (by rw [hlen]; omega) (decide ((0 : Int) < (nn : Int))) (fun hd hr => by
        simp at hd hr
        omega)
      rw [hlen] at hnew
      exact ⟨_, _, _, .inl hrun, hgr.fr hi.fresh _ _, hgr.inv hi _ _, hnew⟩
    · simp at h
  · simp at h

end
end Go.Proofs.YtflciaomdlgjpaaGreatDoor.VVE

namespace Go.Proofs.YtflciaomdlgjpaaGreatDoor.VVE

section
variable {P : Program} {g : G} {s s' : St} {a : Act} {w : World} {o : Oper} {v : V}

theorem runOp_does (hi : Inv g s a w) {op : IOp} (hc : chkOp P op o.op = true) (h : runOp s op = some (v, s')) : Does P g a w o v s' := by
  generalize ho : o.op = go at hc
  unfold chkOp at hc
  split at hc
  case h_1 => exact mv_does hi hc (.inl ho) h
  case h_2 => exact mv_does hi hc (.inr ho) h
  case h_3 =>
    simp only [Bool.and_eq_true] at hc
    exact pick_does hi hc.1.1 hc.1.2 hc.2 ho h
  case h_4 => exact alloc_does hi hc ho h
  case h_5 => exact box_does hi hc ho h
  case h_6 =>
    split at hc
    · rename_i fs hfs
      simp only [Bool.and_eq_true] at hc
      exact build_does hi hfs hc.1.1 hc.1.2 hc.2 ho h
    · simp at hc
  case h_7 =>
    split at hc
    · rename_i e he
      simp only [Bool.and_eq_true, beq_iff_eq, decide_eq_true_eq] at hc
      obtain ⟨⟨⟨⟨⟨h1, h2⟩, h3⟩, h4⟩, h5⟩, h6⟩ := hc
      subst h4
      exact bslice_does hi he h1 h2 h3 h5 h6 ho h
    · simp at hc
  case h_8 =>
    rename_i n agg take x t y
    simp only [Bool.and_eq_true, beq_iff_eq, Bool.or_eq_true] at hc
    obtain ⟨⟨⟨h1, h2⟩, h3⟩, h4⟩ := hc
    cases take with
    | true => exact take_does hi h1 h2 h3 h4 ho h
    | false => exact load_does hi h1 h2 h3 h4 ho h
  case h_9 =>
    simp only [Bool.and_eq_true] at hc
    exact store_does hi hc.1.1 hc.1.2 hc.2 ho h
  case h_10 => exact nilck_does hi hc ho h
  case h_11 =>
    simp only [Bool.and_eq_true, decide_eq_true_eq] at hc
    obtain ⟨⟨rfl, h2⟩, h3⟩ := hc
    exact bin_does hi h2 h3 ho h
  case h_12 =>
    simp only [Bool.and_eq_true, decide_eq_true_eq] at hc
    obtain ⟨⟨⟨h1, rfl⟩, h2⟩, h3⟩ := hc
    split at h1
    · exact beq_does hi h2 h3 (by assumption) ho h
    · simp at h1
  case h_13 =>
    simp only [Bool.and_eq_true, decide_eq_true_eq] at hc
    obtain ⟨rfl, h2⟩ := hc
    exact un_does hi h2 ho h
  case h_14 =>
    simp only [Bool.and_eq_true] at hc
    obtain ⟨⟨h1, h2⟩, h3⟩ := hc
    split at h3
    · simp at h3
      subst h3
      exact conv_does hi h1 h2 (by assumption) ho h
    · simp at h3
  case h_15 =>
    simp only [Bool.and_eq_true, beq_iff_eq] at hc
    obtain ⟨⟨h1, rfl⟩, h3⟩ := hc
    split at h3
    · exact same_does hi h1 (sliceOf_spec (by assumption)) (isU8_spec h3) ho h
    · simp at h3
  case h_16 =>
    simp only [Bool.and_eq_true] at hc
    obtain ⟨⟨h1, h2⟩, h3⟩ := hc
    split at h3
    · exact b2s_does hi h1 (sliceOf_spec (by assumption)) (isU8_spec h3) (isStr_spec h2) ho h
    · simp at h3
  case h_17 =>
    simp only [Bool.and_eq_true] at hc
    obtain ⟨⟨h1, h2⟩, h3⟩ := hc
    split at h3
    · exact s2b_does hi h1 (isStr_spec h2) (sliceOf_spec (by assumption)) (isU8_spec h3) ho h
    · simp at h3
  case h_18 =>
    simp only [Bool.and_eq_true, beq_iff_eq] at hc
    obtain ⟨⟨rfl, h2⟩, h3⟩ := hc
    exact mkfn_does hi h2 h3 ho h
  case h_19 => exact mkmap_does hi ho h
  case h_20 =>
    simp only [Bool.and_eq_true] at hc
    obtain ⟨⟨h1, h2⟩, h3⟩ := hc
    split at h3
    · rename_i e he
      simp only [Bool.and_eq_true, decide_eq_true_eq] at h3
      obtain ⟨⟨⟨h4, h5⟩, h6⟩, h7⟩ := h3
      split at h7
      · rename_i i hi'
        exact mkslice_does hi h1 h2 (sliceOf_spec he) h4 h5 ⟨i, hi', by simpa using h7⟩ h6 ho h
      · simp at h7
    · simp at h3
  case h_21 =>
    simp only [Bool.and_eq_true] at hc
    obtain ⟨⟨⟨⟨h1, h2⟩, h3⟩, h4⟩, h5⟩ := hc
    split at h5
    · exact slice_does hi h1 h2 h3 h4 (by assumption) h5 ho h
    · simp at h5
  case h_22 =>
    simp only [Bool.and_eq_true] at hc
    obtain ⟨⟨⟨h1, h2⟩, h3⟩, h4⟩ := hc
    exact substr_does hi h1 h2 h3 h4 ho h
  case h_23 =>
    simp only [Bool.and_eq_true] at hc
    obtain ⟨h1, h2⟩ := hc
    split at h2
    · split at h2
      · simp only [Bool.and_eq_true, beq_iff_eq, Bool.not_eq_true'] at h2
        exact faddr_does hi h1 (by assumption) (by assumption) h2.1.1 h2.1.2 h2.2 ho h
      · simp at h2
    · simp at h2
  case h_24 =>
    simp only [Bool.and_eq_true] at hc
    obtain ⟨⟨h1, h2⟩, h3⟩ := hc
    split at h3
    · simp only [Bool.and_eq_true, decide_eq_true_eq] at h3
      exact iaddr_does hi h1 h2 (by assumption) h3.1 ho h
    · simp at h3
  case h_25 =>
    simp only [Bool.and_eq_true] at hc
    obtain ⟨h1, h2⟩ := hc
    split at h2
    · split at h2
      · simp only [Bool.and_eq_true, beq_iff_eq, Bool.or_eq_true] at h2
        exact field_does hi h1 (by assumption) (by assumption) h2.1.1.1 h2.1.1.2 h2.1.2 h2.2 ho h
      · simp at h2
    · simp at h2
  case h_26 =>
    simp only [Bool.and_eq_true] at hc
    exact index_does hi hc.1.1 hc.1.2 hc.2 ho h
  case h_27 =>
    simp only [Bool.and_eq_true, beq_iff_eq] at hc
    obtain ⟨h1, rfl⟩ := hc
    exact extract_does hi h1 ho h
  case h_28 =>
    split at hc
    · rename_i y t h1 h2
      simp only [Bool.and_eq_true] at hc
      exact len_does hi h1 h2 hc.1 hc.2 ho h
    · simp at hc
  case h_29 =>
    split at hc
    · rename_i y t h1 h2
      simp only [Bool.and_eq_true] at hc
      exact slen_does hi h1 h2 hc.1 hc.2 ho h
    · simp at hc
  case h_30 =>
    split at hc
    · rename_i y z t u h1 h2
      simp only [Bool.and_eq_true] at hc
      obtain ⟨⟨⟨k1, k2⟩, k3⟩, k4⟩ := hc
      have ha := Array.ext' (xs := _) (ys := #[y, z]) (by simpa using h1)
      have ht := Array.ext' (xs := _) (ys := #[t, u]) (by simpa using h2)
      subst ha ht
      split at k3
      · rename_i e he
        split at k3
        · rename_i i hi'
          simp only [Bool.and_eq_true, beq_iff_eq, decide_eq_true_eq] at k3
          obtain ⟨⟨⟨m1, m2⟩, m3⟩, m4⟩ := k3
          split at m4
          · rename_i zz hzz
            refine append_does hi k1 k2 ⟨sliceOf_spec he, ?_, ⟨i, zz, hi', m1, m2, hzz, by simpa using m4⟩, m3⟩ ho h
            split at k4
            · simp at k4
            · rename_i d hd hdd
              exact ⟨d, hdd, fun k hk => hd k hk⟩
            · simp at k4
          · simp at m4
        · simp at k3
      · simp at k3
    · simp at hc
  case h_31 => simp [runOp] at h
  case h_32 => simp [runOp] at h
  case h_33 => simp at hc

end
end Go.Proofs.YtflciaomdlgjpaaGreatDoor.VVE

namespace Go.Proofs.YtflciaomdlgjpaaGreatDoor.VVE

abbrev Call := Nat → List V → List Obj' → Option (V × List Obj')

def maskObj (m : List Nat) (h : List Obj') : List Obj' := m.foldl (fun h i => h.set i .gone) h

def unmask (m : List Nat) (old new : List Obj') : List Obj' := m.foldl (fun h i => match old[i]? with | some o => h.set i o | none => h) new

/-- The objects behind the temporaries that are named. -/
def maskIds (env : List V) (ts : List Nat) : List Nat := ts.filterMap fun t => match getT env t with | .ref i _ => some i | _ => none

def isGone : Option Obj' → Bool
  | some .gone => true
  | _ => false

def gones (m : List Nat) (h : List Obj') : Bool := m.all fun i => isGone h[i]?

def callMasked (call : Call) (m : List Nat) (f : Nat) (args : List V) (s : St) : Option (V × St) :=
  if args.all V.goes then
    (call f args (maskObj m s.heap)).bind fun r => if gones m r.2 && r.1.goes then some (r.1, { s with heap := unmask m s.heap r.2 }) else none
  else none

def effOp (call : Call) (m : List Nat) (s : St) : IOp → Option (V × St)
  | .calld f args => callMasked call m f (takeAll args s.env).1 { s with env := (takeAll args s.env).2 }
  | .callv f args => match val s.env f with
    | .clo g first cap => callMasked call m g (first.map V.share ++ ((takeAll args s.env).1 ++ cap.map V.share)) { s with env := (takeAll args s.env).2 }
    | _ => none
  | op => runOp s op

def isBox : V → Bool
  | .box _ => true
  | _ => false

def write (env : List V) (dst : Option Nat) (v : V) : List V :=
  match v, dst with
  | .box cs, some d => (env.map (kill d)).set d (.box cs)
  | v, d => put env d v

def guardOf (env : List V) : Option (Nat × Bool) → Option Bool
  | none => some true
  | some (t, want) => match getT env t with
    | .bool b => some (b == want)
    | _ => none

def stepOp (call : Call) (m : List Nat) (s : St) (o : IOper) : Option St :=
  match guardOf s.env o.guard with
  | some true => (effOp call m s o.op).map fun r => { r.2 with env := write r.2.env o.dst r.1 }
  | some false => some { s with env := put s.env o.dst .undef }
  | none => none

/-- Operations that nothing may pass. -/
def IOp.heavy : IOp → Bool
  | .alloc .. | .box .. | .store .. | .mkmap => true
  | _ => false

def safeAddr (m : List Nat) : V → Bool
  | .ref i _ => m.contains i
  | _ => true

def dstOk (env : List V) (dst : Option Nat) : Bool :=
  match dst with
  | some d => !isBox (getT env d)
  | none => true

def safeLoad (m : List Nat) (strict : Bool) (env : List V) : IOp → Bool
  | .load _ _ _ x => !strict || safeAddr m (val env x)
  | _ => true

/-- A step of a region whose order is open. -/
def stepD (call : Call) (m : List Nat) (strict : Bool) (s : St) (o : IOper) : Option St :=
  if o.op.heavy then stepOp call m s o else
  if dstOk s.env o.dst && safeLoad m strict s.env o.op then
    match guardOf s.env o.guard with
    | some true => (effOp call m s o.op).bind fun r => if isBox r.1 then none else some { r.2 with env := put r.2.env o.dst r.1 }
    | some false => some { s with env := put s.env o.dst .undef }
    | none => none
  else none

def runOps (step : St → IOper → Option St) : List IOper → St → Option St
  | [], s => some s
  | o :: rest, s => (step s o).bind (runOps step rest)

inductive Ex where
  | normal
  | exit (id : Nat)
  | ret
  deriving DecidableEq, Inhabited

def dropAll (env : List V) (ts : List Nat) : List V := ts.foldl (fun e t => e.set t .undef) env

def iter (body : St → Option (Ex × St)) : Nat → St → Option (Ex × St)
  | 0, _ => none
  | n + 1, s => match body s with
    | some (.normal, s') => iter body n s'
    | r => r

def evC (call : Call) (n : Nat) : IC → St → Option (Ex × St)
  | .skip, s => some (.normal, s)
  | .region ops draw _ strict mask drop, s =>
    (runOps (if draw then stepD call (maskIds s.env mask) strict else stepOp call (maskIds s.env mask)) ops s).map fun s' => (.normal, { s' with env := dropAll s'.env drop })
  | .seq a b, s => match evC call n a s with
    | some (.normal, s') => evC call n b s'
    | r => r
  | .cond c a b, s => match val s.env c with
    | .bool true => evC call n a s
    | .bool false => evC call n b s
    | _ => none
  | .block id a, s => match evC call n a s with
    | some (.exit id', s') => if id' = id then some (.normal, s') else some (.exit id', s')
    | r => r
  | .loop a, s => iter (evC call n a) n s
  | .exit id, s => some (.exit id, s)
  | .ret, s => some (.ret, s)
  | .stop, _ => none

def resOf (s : St) : IRes → Option V
  | .tmp t => if (getT s.env t).goes then some (getT s.env t) else none
  | .cell t n agg => (loadAt s (val s.env (.t t)) n).bind fun cs => ofCells agg (if isBox (getT s.env t) then cs else cs.map V.share1)

def resAll (s : St) : List IRes → Option (List V)
  | [] => some []
  | r :: rs => (resOf s r).bind fun v => (resAll s rs).map (v :: ·)

def packRes : List V → V
  | [v] => v
  | vs => .tup (vs.map V.share2)

def finish (keep : Bool) (n : Nat) (v : V) (h : List Obj') : V × List Obj' :=
  let v := if keep then v else v.share
  if v.under n then (v, h.take n) else (v, h)

def evF (call : Call) (n : Nat) (fn : IFunc) (args : List V) (h : List Obj') : Option (V × List Obj') :=
  if args.length ≤ fn.ntmps then
    match evC call n fn.body { env := args ++ List.replicate (fn.ntmps - args.length) .undef, heap := h } with
    | some (.normal, s) | some (.ret, s) => (resAll s fn.results).map fun vs => finish fn.keep h.length (packRes vs) s.heap
    | _ => none
  else none

/-- One call, with fuel. 'prg' has the functions in the small form. -/
def ev (prg : Nat → Option IFunc) : Nat → Call
  | 0, _, _, _ => none
  | n + 1, f, args, h => (prg f).bind fun fn => evF (ev prg n) n fn args h
end Go.Proofs.YtflciaomdlgjpaaGreatDoor.VVE

namespace Go.Proofs.YtflciaomdlgjpaaGreatDoor.VVE

structure Tr (f : Own → Option Own) (g g' : G) : Prop where
  U : g'.U = g.U
  β : g'.β = g.β
  O : ∀ b p q, g.O b = some p → f p = some q → g'.O b = some q

section
variable {f : Own → Option Own} {g g' : G} {w : World}

theorem Tr.rep (h : Tr f g g') {v : V} {x : Value} (hr : g.Rep w v x) : g'.Rep w v x := by
  unfold G.Rep at *
  rw [h.U, h.β]
  exact hr

theorem Tr.app (h : Tr f g g') {p q : Own} (hf : f p = some q) {v : V} {x : Value} (ha : AppAt g w p v x) : AppAt g' w q v x := by
  intro rows hv base len cap hx
  rcases ha rows hv base len cap hx with ha | ⟨b, off, sz, c, e, fr, h1, h2, h3, h4, h5, h6⟩
  · exact .inl ha
  · exact .inr ⟨b, off, sz, c, e, fr, h1, h2, h3, h.O b p q h4 hf, by rw [h.U]; exact h5, h6⟩

theorem Tr.block (h : Tr f g g') {b : Nat} {pl pl' : Nat → Own} (hf : ∀ j, f (pl j) = some (pl' j)) {cells : List V} (hb : BlockRep g w b pl cells) : BlockRep g' w b pl' cells := by
  obtain ⟨hu, c, e, fr, hh, hs, hfr, hc⟩ := hb
  exact ⟨by rw [h.U]; exact hu, c, e, fr, hh, hs, hfr, fun j v hj => ⟨(hc j v hj).1, h.rep (hc j v hj).2.1, h.app (hf j) (hc j v hj).2.2⟩⟩

theorem Tr.pl (h : Tr f g g') {own own' : Own} {pl pl' : Nat → Own} (hf : ∀ j, f (pl j) = some (pl' j)) {v : V} {x : Value} (hg : v.goes = true) (hv : PlRep g w own pl v x) : PlRep g' w own' pl' v x := by
  unfold PlRep at *
  split
  · trivial
  · simp [V.goes] at hg
  · simp [V.goes] at hg
  · rename_i h1 h2 h3
    split at hv
    · exact absurd rfl (h1 ·)
    · exact absurd rfl (h2 _ _ ·)
    · exact absurd rfl (h3 _ ·)
    · exact ⟨h.rep hv.1, fun j u hj => h.app (hf j) (hv.2 j u hj)⟩

theorem Tr.obj (h : Tr f g g') {i : Nat} (ho : f (.obj i) = some (.obj i)) (hf : ∀ j, f (.oc i j) = some (.oc i j)) {o : Obj'} (hr : ObjRep g w i o) : ObjRep g' w i o := by
  unfold ObjRep at *
  split
  · trivial
  · obtain ⟨b, hb, hO, hB, hu⟩ := hr
    exact ⟨b, by rw [h.β]; exact hb, h.O b _ _ hO ho, h.block hf hB, hu⟩
  · obtain ⟨b, hb, hO, hU, hr⟩ := hr
    exact ⟨b, by rw [h.β]; exact hb, h.O b _ _ hO ho, by rw [h.U]; exact hU, hr⟩
end

/- INTO A CALL -/

def callF (m : List Nat) : Own → Option Own
  | .parg i j => some (.tc i j)
  | .obj i => if m.contains i then none else some (.obj i)
  | .oc i j => if m.contains i then none else some (.oc i j)
  | _ => none

/-- What a call sees of what is known. -/
def G.into (g : G) (m : List Nat) : G := { U := g.U, O := fun b => (g.O b).bind (callF m), β := g.β, lam := fun _ => none }

theorem G.into_tr (g : G) (m : List Nat) : Tr (callF m) g (g.into m) := ⟨rfl, rfl, fun b p q h hf => by simp [G.into, h, hf]⟩

def kept (m : List Nat) : Own → Bool
  | .box _ | .tc .. => true
  | .obj i | .oc i _ => m.contains i
  | _ => false

theorem callF_kept {m : List Nat} {p : Own} (h : kept m p = true) : callF m p = none := by
  cases p <;> simp_all [kept, callF]

/-- Of the rights that a call leaves, those that its caller takes. -/
def backF : Own → Option Own
  | .pbox => some .pbox
  | .pend j => some (.pend j)
  | .obj i => some (.obj i)
  | .oc i j => some (.oc i j)
  | _ => none

def G.back (g g' : G) (m : List Nat) : G :=
  { U := g'.U, β := g'.β, lam := g.lam, O := fun b => match g.O b with
    | some p => if kept m p then some p else (g'.O b).bind backF
    | none => (g'.O b).bind backF }

section
variable {m : List Nat} {g g' : G} {w w' : World}

theorem back_none (hf : Fresh g w) (hfr : Fr (g.into m) w g' w') {b : Nat} {p : Own} (hb : g.O b = some p) (hk : kept m p = true) :
    w'.heap[b]? = w.heap[b]? ∧ g'.U b = g.U b ∧ g'.O b = none := by
  have hlt : b < w.heap.size := by
    rcases Nat.lt_or_ge b w.heap.size with h | h
    · exact h
    · rw [hf.O b h] at hb; cases hb
  exact hfr.un b hlt (by simp [G.into, hb, callF_kept hk])

theorem back_tr (hf : Fresh g w) (hfr : Fr (g.into m) w g' w') : Tr backF g' (g.back g' m) := by
  refine ⟨rfl, rfl, fun b p q hb hq => ?_⟩
  show (match g.O b with
    | some p => if kept m p then some p else (g'.O b).bind backF
    | none => (g'.O b).bind backF) = _
  split
  · rename_i p0 h0
    split
    · rename_i hk
      rw [(back_none hf hfr h0 hk).2.2] at hb
      cases hb
    · simp [hb, hq]
  · simp [hb, hq]

theorem back_keep (hf : Fresh g w) (hfr : Fr (g.into m) w g' w') : Keep (fun p => kept m p = false) g w (g.back g' m) w' := by
  refine ⟨⟨hfr.pub, hfr.U, hfr.β⟩, fun b p hb hp => ?_⟩
  have hk : kept m p = true := by cases h : kept m p <;> simp_all
  obtain ⟨h1, h2, _⟩ := back_none hf hfr hb hk
  exact ⟨h1, h2, by simp [G.back, hb, hk]⟩

theorem back_fr (hf : Fresh g w) (hfr : Fr (g.into m) w g' w') : Fr g w (g.back g' m) w' := by
  refine ⟨⟨hfr.pub, hfr.U, hfr.β⟩, hfr.size, fun b hb ho => ?_, hfr.os, hfr.out⟩
  obtain ⟨h1, h2, h3⟩ := hfr.un b hb (by simp [G.into, ho])
  exact ⟨h1, h2, by simp [G.back, ho, h3]⟩

theorem back_fresh (hf : Fresh g w) (hfr : Fr (g.into m) w g' w') (hf' : Fresh g' w') : Fresh (g.back g' m) w' := by
  refine ⟨hf'.U, fun b hb => ?_⟩
  have h1 : g.O b = none := hf.O b (Nat.le_trans hfr.size hb)
  simp [G.back, h1, hf'.O b hb]

end

/- MASKS -/

theorem length_maskObj (m : List Nat) : ∀ h : List Obj', (maskObj m h).length = h.length := by
  induction m with
  | nil => intro h; rfl
  | cons i m ih => intro h; simp only [maskObj, List.foldl_cons] at *; rw [ih]; simp

theorem maskObj_get (m : List Nat) : ∀ (h : List Obj') (i : Nat), (maskObj m h)[i]? = if m.contains i then (h[i]?).map (fun _ => .gone) else h[i]? := by
  induction m with
  | nil => intro h i; simp [maskObj]
  | cons k m ih =>
    intro h i
    simp only [maskObj, List.foldl_cons] at *
    rw [ih, List.getElem?_set]
    by_cases hk : k = i
    · subst hk
      by_cases hl : k < h.length
      · simp [hl]
      · simp [hl]
    · have : ¬ i = k := fun h => hk h.symm
      simp [hk, this]

theorem length_unmask (m : List Nat) (old : List Obj') : ∀ h : List Obj', (unmask m old h).length = h.length := by
  induction m with
  | nil => intro h; rfl
  | cons i m ih =>
    intro h
    simp only [unmask, List.foldl_cons] at *
    rw [ih]
    split <;> simp

theorem unmask_get (m : List Nat) (old : List Obj') : ∀ (h : List Obj') (i : Nat), i < h.length → (unmask m old h)[i]? = if m.contains i ∧ i < old.length then old[i]? else h[i]? := by
  induction m with
  | nil => intro h i _; simp [unmask]
  | cons k m ih =>
    intro h i hi
    simp only [unmask, List.foldl_cons] at *
    rw [ih _ _ (by split <;> simpa using hi)]
    by_cases hk : k = i
    · subst hk
      by_cases hl : k < old.length
      · simp [hl, hi]
      · simp [hl]
    · have h1 : (i == k) = false := by simp; exact fun h => hk h.symm
      simp only [List.contains_cons, h1, Bool.false_or]
      split
      · rfl
      · split
        · rw [List.getElem?_set_ne hk]
        · rfl

theorem HeapInv.into {g : G} {h : List Obj'} {w : World} (hi : HeapInv g h w) (m : List Nat) : HeapInv (g.into m) (maskObj m h) w := by
  refine ⟨by rw [length_maskObj]; exact hi.len, fun i o ho => ?_⟩
  rw [maskObj_get] at ho
  split at ho
  · obtain ⟨o', _, rfl⟩ := Option.map_eq_some_iff.1 ho
    trivial
  · rename_i hm
    exact (g.into_tr m).obj (by simp [callF]; simpa using hm) (fun j => by simp [callF]; simpa using hm) (hi.rep i o ho)

theorem HeapInv.back {m : List Nat} {g g' : G} {w w' : World} {h h' : List Obj'} (hf : Fresh g w) (hfr : Fr (g.into m) w g' w') (hi : HeapInv g h w) (hi' : HeapInv g' h' w') :
    HeapInv (g.back g' m) (unmask m h h') w' := by
  refine ⟨by rw [length_unmask]; exact hi'.len, fun i o ho => ?_⟩
  have hlt : i < h'.length := by
    have := (List.getElem?_eq_some_iff.1 ho).1
    rwa [length_unmask] at this
  rw [unmask_get _ _ _ _ hlt] at ho
  split at ho
  · rename_i hm
    have hk := back_keep hf hfr
    have h0 := hi.rep i o ho
    have k1 : ¬ kept m (.obj i) = false := by simp [kept]; simpa using hm.1
    have k2 : ∀ j, ¬ kept m (.oc i j) = false := fun j => by simp [kept]; simpa using hm.1
    unfold ObjRep at *
    split
    · trivial
    · obtain ⟨b, hb, hO, hB, hu⟩ := h0
      exact ⟨b, hk.β i b hb, (hk.own b _ hO k1).2.2, hB.keep hk hO k1 k2, hu⟩
    · obtain ⟨b, hb, hO, hU, he, ck, hh⟩ := h0
      obtain ⟨l1, l2, l3⟩ := hk.own b _ hO k1
      exact ⟨b, hk.β i b hb, l3, l2.trans hU, he, ck, l1.trans hh⟩
  · exact (back_tr hf hfr).obj rfl (fun _ => rfl) (hi'.rep i o ho)

end Go.Proofs.YtflciaomdlgjpaaGreatDoor.VVE

namespace Go.Proofs.YtflciaomdlgjpaaGreatDoor.VVE

theorem G.ren_ren (g : G) (f f' : Own → Own) : (g.ren f).ren f' = g.ren (f' ∘ f) := by simp [G.ren, Option.map_map]

theorem getT_nil (i : Nat) : getT [] i = .undef := by simp [getT]
theorem getT_zero (v : V) (l : List V) : getT (v :: l) 0 = v := by simp [getT]
theorem getT_succ (v : V) (l : List V) (i : Nat) : getT (v :: l) (i + 1) = getT l i := by simp [getT]

theorem getT_append (A B : List V) (i : Nat) : getT (A ++ B) i = if i < A.length then getT A i else getT B (i - A.length) := by
  unfold getT
  simp only [List.getD_eq_getElem?_getD]
  split
  · rw [List.getElem?_append_left (by assumption)]
  · rw [List.getElem?_append_right (by omega)]

theorem getD_append' (A B : List Value) (i : Nat) (d : Value) : (A ++ B).getD i d = if i < A.length then A.getD i d else B.getD (i - A.length) d := by
  simp only [List.getD_eq_getElem?_getD]
  split
  · rw [List.getElem?_append_left (by assumption)]
  · rw [List.getElem?_append_right (by omega)]

theorem PlRep.undef (g : G) (w : World) (own : Own) (pl : Nat → Own) (x : Value) : PlRep g w own pl .undef x := trivial

theorem takeAll_inv {a : Act} {w : World} : ∀ (xs : List Src) (os : List Operand), chkSrcs xs os = true → ∀ (k : Nat) (g : G) (s : St), Inv g s a w →
    ∃ f : Own → Own, (∀ p, (∀ t j, p ≠ .tc t j) → f p = p) ∧ Inv (g.ren f) { s with env := (takeAll xs s.env).2 } a w ∧ (takeAll xs s.env).1.length = xs.length ∧ os.length = xs.length ∧
      ∀ i, PlRep (g.ren f) w .pbox (.parg (k + i)) (getT (takeAll xs s.env).1 i) ((os.map a.eval).getD i Go.undef) := by
  intro xs
  induction xs with
  | nil =>
    intro os hc k g s hi
    cases os with
    | cons => simp [chkSrcs] at hc
    | nil => exact ⟨id, fun _ _ => rfl, by rw [G.ren_id]; exact hi, rfl, rfl, fun i => by simp only [takeAll]; rw [getT_nil]; trivial⟩
  | cons x xs ih =>
    intro os hc k g s hi
    cases os with
    | nil => simp [chkSrcs] at hc
    | cons o os =>
      simp only [chkSrcs, Bool.and_eq_true] at hc
      obtain ⟨h1, h2⟩ := hi.take hc.1 .pbox (.parg k)
      obtain ⟨f, hf, h3, h4, h5, h6⟩ := ih os hc.2 (k + 1) _ _ h1
      refine ⟨f ∘ takeS s.env x (.parg k), fun p hp => ?_, ?_, by simp only [takeAll, List.length_cons]; exact congrArg (· + 1) h4, by simp [h5], fun i => ?_⟩
      · show f (takeS s.env x _ p) = p
        rw [takeS_fix _ _ _ p hp, hf p hp]
      · rw [← G.ren_ren]
        simpa only [takeAll] using h3
      · rw [← G.ren_ren]
        simp only [takeAll]
        cases i with
        | zero =>
          rw [getT_zero]
          exact h2.ren f (hf _ (by simp)) (fun j => hf _ (by simp))
        | succ i =>
          rw [getT_succ, List.map_cons, List.getD_cons_succ]
          have := h6 i
          rwa [show k + 1 + i = k + (i + 1) by omega] at this

def FuncOk (P : Program) (f : FuncId) : Prop := ∃ fn, P.funcs[f]? = some fn ∧ (fn.name == "runtime.NumGoroutine") = false ∧ fn.body.isNone = false

def After (g : G) (w : World) (v : V) (h : List Obj') (e : Ending) (w' : World) : Prop :=
  ∃ x g', e = .returned x ∧ Fr g w g' w' ∧ HeapInv g' h w' ∧ Fresh g' w' ∧ PlRep g' w' .pbox .pend v x

/-- What a call has to do. -/
def CallSound (P : Program) (call : Call) : Prop :=
  ∀ f vs h v h', call f vs h = some (v, h') → vs.all V.goes = true → ∀ (g : G) (w : World) (xs : Array Value), xs.size = vs.length →
    (∀ i, PlRep g w (.box i) (.tc i) (getT vs i) (xs.getD i Go.undef)) → HeapInv g h w → Fresh g w → FuncOk P f ∧ Calls P f xs w (After g w v h')

theorem goes_getT {vs : List V} (h : vs.all V.goes = true) (i : Nat) : (getT vs i).goes = true := by
  by_cases hi : i < vs.length
  · unfold getT
    rw [List.getD_eq_getElem?_getD, List.getElem?_eq_getElem hi]
    exact List.all_eq_true.1 h _ (List.getElem_mem hi)
  · rw [getT_ge hi]; rfl

/-- What a step has to do, up to the write of its value. -/
def Gives (g : G) (w : World) (a : Act) (s' : St) (v : V) (x : Value) (w' : World) : Prop :=
  ∃ g', Fr g w g' w' ∧ Inv g' s' a w' ∧ PlRep g' w' .pbox .pend v x

section
variable {P : Program} {call : Call} {m : List Nat} {g : G} {s s' : St} {a : Act} {w : World} {v : V}

theorem callMasked_wp (hcs : CallSound P call) {f : Nat} {vs : List V} (h : callMasked call m f vs s = some (v, s')) (hi : Inv g s a w) {xs : Array Value} (hsz : xs.size = vs.length)
    (hargs : ∀ i, PlRep g w .pbox (.parg i) (getT vs i) (xs.getD i Go.undef)) :
    FuncOk P f ∧ Calls P f xs w fun e w' => ∃ x, e = .returned x ∧ Gives g w a s' v x w' := by
  unfold callMasked at h
  split at h
  · rename_i hg
    obtain ⟨⟨v1, h1⟩, hcall, h⟩ := Option.bind_eq_some_iff.1 h
    dsimp only at h
    split at h
    · rename_i hgv
      simp only [Bool.and_eq_true] at hgv
      cases h
      obtain ⟨hok, hc⟩ := hcs f vs _ v h1 hcall hg (g.into m) w xs hsz (fun i => (g.into_tr m).pl (fun j => rfl) (goes_getT hg i) (hargs i)) (hi.heap.into m)
        ⟨hi.fresh.U, fun b hb => by simp [G.into, hi.fresh.O b hb]⟩
      refine ⟨hok, hc.mono fun e w' he => ?_⟩
      obtain ⟨x, g', rfl, hfr, hh, hf, hv⟩ := he
      have hk := back_keep hi.fresh hfr
      refine ⟨x, rfl, g.back g' m, back_fr hi.fresh hfr, ⟨hi.defers, hi.size, fun t => ⟨(hi.env t).1.keep hk (by simp [kept]) (by simp [kept]) (fun _ _ hb => hb), (hi.env t).2⟩,
        hi.heap.back hi.fresh hfr hh, back_fresh hi.fresh hfr hf⟩, (back_tr hi.fresh hfr).pl (fun j => rfl) hgv.2 hv⟩
    · cases h
  · cases h

theorem run_callFunc {f : FuncId} (hf : FuncOk P f) (xs : Array Value) : (callFunc f xs).run P w = .ok (.enter f xs) w := by
  obtain ⟨fn, h1, h2, h3⟩ := hf
  have h2' : fn.name ≠ "runtime.NumGoroutine" := by simpa using h2
  cases hb : fn.body with
  | none => rw [hb] at h3; cases h3
  | some c => simp [callFunc, h1, h2', hb]

theorem run_call {f : FuncId} (hf : FuncOk P f) (o : Oper) (c : Go.Call) (y : Operand) (fs cs : Array Value) (ho : o.op = .call c) (hc : c.callee = .value y) (hy : a.eval y = .func (.func f) fs cs) :
    (execOp a.eval o).run P w = .ok (.enter f (fs ++ c.args.map a.eval ++ cs)) w := by
  have h := run_callFunc (w := w) hf (fs ++ c.args.map a.eval ++ cs)
  rw [Array.append_assoc] at h ⊢
  simp only [execOp, ho, resolve, hc, hy, Deferred.ofValue, invoke]
  simpa using h

end

def chkGuard (ops : Array Oper) : Option (Nat × Bool) → Option (Nat × Bool) → Bool
  | none, none => true
  | some (t, want), some (j, want') => want == want' && (match ops[j]? with | some o => o.dst == some t | none => false)
  | _, _ => false

def chkOper (P : Program) (ops : Array Oper) (o : IOper) (o' : Oper) : Bool := o.dst == o'.dst && chkOp P o.op o'.op && chkGuard ops o.guard o'.guard

section
variable {P : Program} {g : G} {s : St} {a : Act} {w : World}

theorem wanted_eq {ops : Array Oper} {o : IOper} {o' : Oper} (hi : Inv g s a w) (hc : chkGuard ops o.guard o'.guard = true) {b : Bool} (h : guardOf s.env o.guard = some b) :
    Region.wanted o' (yielded ops a.tmps) = b := by
  unfold Region.wanted
  cases hg : o.guard with
  | none =>
    cases hg' : o'.guard with
    | none => rw [hg] at h; simp [guardOf] at h; simp [h]
    | some _ => rw [hg, hg'] at hc; simp [chkGuard] at hc
  | some q =>
    obtain ⟨t, want⟩ := q
    cases hg' : o'.guard with
    | none => rw [hg, hg'] at hc; simp [chkGuard] at hc
    | some q' =>
      obtain ⟨j, want'⟩ := q'
      rw [hg, hg'] at hc
      rw [hg] at h
      simp only [chkGuard, Bool.and_eq_true, beq_iff_eq] at hc
      obtain ⟨rfl, hj⟩ := hc
      split at hj
      · rename_i o2 ho2
        simp only [beq_iff_eq] at hj
        simp only [guardOf] at h
        split at h
        · rename_i c hct
          cases h
          have hl : t < a.tmps.size := by
            rw [hi.size]
            rcases Nat.lt_or_ge t s.env.length with h | h
            · exact h
            · rw [getT_ge (by omega)] at hct; cases hct
          have hv := (hi.env t).1
          rw [hct] at hv
          have hx := Rep.bool_inv hv.1
          have : a.tmps[t]? = some (.bool c) := by
            rw [← hx]
            simp [Array.getElem?_eq_getElem hl]
          simp [yielded, ho2, hj, this]
        · cases h
      · cases hj

theorem Inv.write (hi : Inv g s a w) {v : V} {x : Value} (hv : PlRep g w .pbox .pend v x) (dst : Option Nat) :
    ∃ g', Fr g w g' w ∧ Inv g' { s with env := VVE.write s.env dst v } (a.put dst x) w := by
  cases dst with
  | none =>
    refine ⟨g, Fr.refl g w, ?_⟩
    have : VVE.write s.env none v = s.env := by cases v <;> rfl
    rw [this]
    exact hi
  | some d =>
    by_cases hb : ∃ cs, v = .box cs
    · obtain ⟨cs, rfl⟩ := hb
      obtain ⟨b, h⟩ := hi.putBox hv d
      exact ⟨_, Fr.local g w _ d b, h⟩
    · have hnb : ∀ cs, v ≠ .box cs := fun cs h => hb ⟨cs, h⟩
      have : VVE.write s.env (some d) v = s.env.set d v := by
        cases v <;> first
          | rfl
          | exact absurd rfl (hnb _)
      rw [this]
      exact ⟨_, Fr.ren g w _, hi.put hv hnb d⟩

end

/-- Any step does what the evaluator does. -/
theorem stepOp_wp {P : Program} {call : Call} (hcs : CallSound P call) {m : List Nat} {ops : Array Oper} {i : Nat} {o : IOper} {o' : Oper} (ho : ops[i]? = some o') (hc : chkOper P ops o o' = true)
    {g : G} {s s' : St} {a : Act} {w : World} (hi : Inv g s a w) (h : stepOp call m s o = some s') {K : Act → World → Prop} {Q : Exit → Act → World → Prop}
    (hK : ∀ a' w' g', Fr g w g' w' → Inv g' s' a' w' → K a' w') : wpOp P ops Q i K a w := by
  simp only [chkOper, Bool.and_eq_true, beq_iff_eq] at hc
  obtain ⟨⟨hd, hop⟩, hgd⟩ := hc
  unfold wpOp
  simp only [ho]
  unfold stepOp at h
  cases hgo : guardOf s.env o.guard with
  | none => rw [hgo] at h; cases h
  | some b =>
    rw [hgo] at h
    rw [wanted_eq hi hgd hgo]
    cases b with
    | false =>
      cases h
      rw [if_neg (by simp)]
      obtain ⟨g', hf, hi'⟩ := hi.write (PlRep.undef g w .pbox .pend Go.undef) o.dst
      rw [← hd]
      exact hK _ _ g' hf hi'
    | true =>
      rw [if_pos rfl]
      refine .inl ?_
      obtain ⟨⟨v, s1⟩, he, h⟩ := Option.map_eq_some_iff.1 h
      dsimp only at h
      subst h
      have done : ∀ x w', Gives g w a s1 v x w' → K (a.put o'.dst x) w' := by
        intro x w' hx
        obtain ⟨g', hf, hi', hv⟩ := hx
        obtain ⟨g2, hf2, hi2⟩ := hi'.write hv o.dst
        rw [← hd]
        exact hK _ _ g2 (hf.trans hf2) hi2
      have calls : ∀ f xs, (execOp a.eval o').run P w = .ok (.enter f xs) w → (Calls P f xs w fun e w' => ∃ x, e = .returned x ∧ Gives g w a s1 v x w') → o'.wp P a w K Q := by
        intro f xs hr hcl
        unfold Oper.wp
        rw [hr, Oper.upon_enter]
        refine hcl.mono fun e w' hx => ?_
        obtain ⟨x, rfl, hx⟩ := hx
        exact done x w' hx
      have plain : ∀ op, o.op = op → runOp s op = some (v, s1) → o'.wp P a w K Q := by
        intro op e hr
        rw [e] at hop
        obtain ⟨x, w', g', hrun, hf, hi', hv⟩ := runOp_does hi hop hr
        unfold Oper.wp
        rcases hrun with hrun | ⟨hrun, rfl⟩
        · rw [hrun, Oper.upon_value]
          exact done x w' ⟨g', hf, hi', hv⟩
        · rw [hrun, Oper.upon_skip]
          exact done _ w' ⟨g', hf, hi', hv⟩
      cases hq : o.op with
      | calld f args =>
        rw [hq] at he hop
        simp only [effOp] at he
        obtain ⟨c, y, hco, hcy, hck⟩ : ∃ c y, o'.op = .call c ∧ c.callee = .value y ∧ (y = .func f ∧ chkSrcs args c.args.toList = true) := by
          generalize o'.op = go at hop
          unfold chkOp at hop
          split at hop <;> simp_all
        obtain ⟨rfl, hck⟩ := hck
        obtain ⟨fr, hfr, hi2, hl1, hl2, hargs⟩ := takeAll_inv args c.args.toList hck 0 g s hi
        simp only [Nat.zero_add] at hargs
        obtain ⟨hok, hcl⟩ := callMasked_wp (xs := c.args.map a.eval) hcs he hi2 (by rw [hl1, ← hl2]; simp) (fun i => by
          have := hargs i
          simpa using this)
        refine calls f _ (by simpa using run_call hok o' c _ #[] #[] hco hcy rfl) (hcl.mono fun e w' hx => ?_)
        obtain ⟨x, e1, g', hf, hi', hv⟩ := hx
        exact ⟨x, e1, g', (Fr.ren g w fr).trans hf, hi', hv⟩
      | callv f args =>
        rw [hq] at he hop
        simp only [effOp] at he
        obtain ⟨c, y, hco, hcy, hcf, hck⟩ : ∃ c y, o'.op = .call c ∧ c.callee = .value y ∧ chkSrc f y = true ∧ chkSrcs args c.args.toList = true := by
          generalize o'.op = go at hop
          unfold chkOp at hop
          split at hop <;> simp_all
        split at he
        · rename_i gf first cap hval
          have hsee := hi.see hcf (by rw [hval]; rfl)
          rw [hval] at hsee
          obtain ⟨fs, cs, hy, hfl, hcl', hfr1, hcr1⟩ : ∃ fs cs : List Value, a.eval y = .func (.func gf) fs.toArray cs.toArray ∧ fs.length = first.length ∧ cs.length = cap.length ∧
              (∀ (j : Nat) (v : V), first[j]? = some v → g.Rep w v (fs.getD j Go.undef)) ∧ (∀ (j : Nat) (v : V), cap[j]? = some v → g.Rep w v (cs.getD j Go.undef)) := by
            generalize a.eval y = yy at hsee
            cases hsee with
            | datum _ _ h => cases h
            | clo _ _ _ fs cs h1 h2 h3 h4 => exact ⟨fs, cs, rfl, h1, h2, h3, h4⟩
          obtain ⟨fr, hfr, hi2, hl1, hl2, hargs⟩ := takeAll_inv args c.args.toList hck first.length g s hi
          have hall : ((first.map V.share ++ ((takeAll args s.env).1 ++ cap.map V.share))).all V.goes = true := by
            unfold callMasked at he
            split at he
            · assumption
            · cases he
          simp only [List.all_append, Bool.and_eq_true, List.all_eq_true] at hall
          have plv : ∀ (v : V) (x : Value) own pl, v.share.goes = true → g.Rep w v x → PlRep (g.ren fr) w own pl v.share x := by
            intro v x own pl hg hr
            have hnb : ∀ cs, v ≠ .box cs := by rintro cs rfl; simp [V.share, V.goes] at hg
            exact PlRep.of_calm (g := g.ren fr) hr.share (V.calm_share v hnb) hg
          have htl : c.args.toList.length = (takeAll args s.env).1.length := by rw [hl1, hl2]
          obtain ⟨hok, hcl⟩ := callMasked_wp (xs := (fs.toArray ++ (c.args.map a.eval ++ cs.toArray))) hcs he hi2
            (by simp at htl; simp [hfl, hcl', htl]) (fun i => by
              have hx : (fs.toArray ++ (c.args.map a.eval ++ cs.toArray)).getD i Go.undef = (fs ++ (c.args.toList.map a.eval ++ cs)).getD i Go.undef := by
                have : fs.toArray ++ (c.args.map a.eval ++ cs.toArray) = (fs ++ (c.args.toList.map a.eval ++ cs)).toArray := by
                  apply Array.ext'
                  simp
                rw [this]
                simp [List.getD_eq_getElem?_getD]
              rw [hx, getT_append, getD_append']
              simp only [List.length_map, hfl]
              by_cases h1 : i < first.length
              · rw [if_pos h1, if_pos h1]
                have hf1 : first[i]? = some first[i] := List.getElem?_eq_getElem h1
                have e1 : getT (first.map V.share) i = (first[i]).share := by
                  simp [getT, List.getD_eq_getElem?_getD, hf1]
                rw [e1]
                exact plv _ _ _ _ (hall.1 _ (List.mem_map.2 ⟨_, List.getElem_mem h1, rfl⟩)) (hfr1 i _ hf1)
              · rw [if_neg h1, if_neg h1, getT_append, getD_append']
                simp only [List.length_map, htl]
                by_cases h2 : i - first.length < (takeAll args s.env).1.length
                · rw [if_pos h2, if_pos h2]
                  have := hargs (i - first.length)
                  rwa [show first.length + (i - first.length) = i by omega] at this
                · rw [if_neg h2, if_neg h2]
                  generalize i - first.length - (takeAll args s.env).1.length = n
                  by_cases h3 : n < cap.length
                  · have hf1 : cap[n]? = some cap[n] := List.getElem?_eq_getElem h3
                    have e1 : getT (cap.map V.share) n = (cap[n]).share := by
                      simp [getT, List.getD_eq_getElem?_getD, hf1]
                    rw [e1]
                    exact plv _ _ _ _ (hall.2.2 _ (List.mem_map.2 ⟨_, List.getElem_mem h3, rfl⟩)) (hcr1 n _ hf1)
                  · rw [getT_ge (by simpa using h3)]
                    trivial)
          refine calls gf _ (by have := run_call (w := w) hok o' c y _ _ hco hcy hy; rwa [Array.append_assoc] at this) (hcl.mono fun e w' hx => ?_)
          obtain ⟨x, e1, g', hf, hi', hv⟩ := hx
          exact ⟨x, e1, g', (Fr.ren g w fr).trans hf, hi', hv⟩
        · cases he
      | _ => exact plain _ hq (by rw [hq] at he; simpa only [effOp] using he)

end Go.Proofs.YtflciaomdlgjpaaGreatDoor.VVE

