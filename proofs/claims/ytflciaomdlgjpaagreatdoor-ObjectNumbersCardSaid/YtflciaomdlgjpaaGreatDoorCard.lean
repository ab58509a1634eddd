/-
  The law 'ObjectNumbers' returns true for every input, and its arguments read afterwards as before: its row, and its tied card. No condition beyond what the given card says.
-/
import Derived.Test.YtflciaomdlgjpaaGreatDoorM1
import Derived.Test.YtflciaomdlgjpaaGreatDoorJ1
import Derived.Test.YtflciaomdlgjpaaGreatDoorTie
import Derived.Test.YtflciaomdlgjpaaGreatDoorCards
import Derived.ProofKit
import Derived.OpenShut
import Derived.Lay
import Derived.SevenTiedAt
set_option linter.unusedVariables false
set_option linter.unusedSimpArgs false
namespace Go.Proofs.YtflciaomdlgjpaaGreatDoor
open Go.ChangeShapes Go.WideShapes Go.ChangeAt Go.RowKit Go.Proofs.YtflciaomdlgjpaaGreatDoor.VVE Go.Proofs.YtflciaomdlgjpaaGreatDoor.VVE.Obj

theorem plRep_int (g : G) (w : World) (own : Own) (pl : Nat → Own) (k : IntKind) (n : Int) : PlRep g w own pl (.int k n) (.int k n) :=
  ⟨.datum _ _ (.int k n), fun j u h => by
    rcases j with _ | j
    · simp [V.cells] at h
      subst h
      intro rows hr
      cases hr
    · simp [V.cells] at h⟩

theorem plRep_str (g : G) (w : World) (own : Own) (pl : Nat → Own) (s : ByteArray) : PlRep g w own pl (.str s.data.toList) (.string s) :=
  ⟨.datum _ _ (.str _ s rfl), fun j u h => by
    rcases j with _ | j
    · simp [V.cells] at h
      subst h
      intro rows hr
      cases hr
    · simp [V.cells] at h⟩

theorem law_calls (rel line dig : Nat) (hrel : rel < 2 ^ 64) (hline : line < 2 ^ 64) (hdig : dig < 2 ^ 64) (s : ByteArray) (k : Int) (hk0 : -(2 ^ 63) ≤ k) (hk1 : k < 2 ^ 63) (W : World) :
    Calls Tryz.prog 3 #[.int .u64 rel, .int .u64 line, .int .u64 dig, .string s, .int .i64 k] W (fun e W' => e = .returned (.bool true) ∧ W.keptBut W' (fun _ => False)) :=
  calls_true Tryz.checked.mixed matches_prg 200201 (law_ev rel line dig hrel hline hdig s.data.toList k hk0 hk1) rfl W _ rfl (fun i => by
    match i with
    | 0 => exact plRep_int ..
    | 1 => exact plRep_int ..
    | 2 => exact plRep_int ..
    | 3 => exact plRep_str ..
    | 4 => exact plRep_int ..
    | i + 5 => exact trivial)

theorem own : ownKnob Tryz.prog.godebug = none := by kernel_rfl

theorem nat_of_wf {n : Int} (h : (Lit.int .u64 n).wf = true) : ∃ m : Nat, n = m ∧ m < 2 ^ 64 := by
  simp [Lit.wf, IntKind.min, IntKind.max, IntKind.signed, IntKind.bits] at h
  exact ⟨n.toNat, by omega, by omega⟩

theorem int_of_wf {n : Int} (h : (Lit.int .i64 n).wf = true) : -(2 ^ 63) ≤ n ∧ n < 2 ^ 63 := by
  simp [Lit.wf, IntKind.min, IntKind.max, IntKind.signed, IntKind.bits] at h
  omega

set_option maxRecDepth 100000 in
theorem lifted (os : Os) (started : os.Started) (H : Type) (enc : TypeId × Value → H) :
    ReturnsInHanded {} Tryz.checked os 3 .any (fun w args => (Rows.objectNumbersSpec.pre enc Tryz.prog Tryz.f3 [] false w args ∧ laidMetH Tryz.prog Rows.objectNumbersRow.laid w) ∧ sizedMet enc Tryz.prog Tryz.f3 (OpenSpec.ofChange Rows.objectNumbersSpec) false w args)
      (Rows.objectNumbersSpec.post enc Tryz.prog Tryz.f3 false true false false) := by
  refine returnsInHanded_of_change_and (C := Tryz.checked) (X := fun w _ => laidMetH Tryz.prog Rows.objectNumbersRow.laid w) (fun _ _ _ hh h => h.of_heap hh) own started (by kernel_rfl) Tryz.func3
    (ChangeSpec.witness_shaped (enc := enc) (C := Tryz.checked) (os := os) (X := fun w _ => laidMetH Tryz.prog Rows.objectNumbersRow.laid w) false (World.laidAll Tryz.prog os Rows.objectNumbersRow.laid)
      #[.int .u64 0, .int .u64 0, .int .u64 0, .string ⟨#[]⟩, .int .i64 0] 8 (World.laidAll_os _ _ _)
      (World.shaped_of_ZipB (by kernel_rfl) (by kernel_rfl)) (by kernel_rfl) (by kernel_rfl) (by kernel_rfl)
      (by rw [MakeChecks.laidMetH_plain _ _ _ (by kernel_rfl)]; exact laidMet_laidAll _ (by kernel_rfl) (by kernel_rfl))) ?_
  intro W base args ds gs before hval0 hW _ _ _ _
  have hval : ∀ (j : Nat) t v, Tryz.f3.params[j]? = some t → args[j]? = some v → Value.okWide Tryz.prog W .any base t v := hval0
  have hW' := hW
  obtain ⟨p, q, hA0, hV, rfl, _, _⟩ := hW
  have hA : DataW.TrodAll enc Tryz.prog W 0 (fun _ => true) true Tryz.f3.params.toList args.toList ds p := hA0
  rw [Tryz.params3] at hA hval
  obtain ⟨v0, vs0, d0, ds0, p0, q0, ha0, rfl, rfl, h0, hA⟩ := trodAll_cons hA
  obtain ⟨v1, vs1, d1, ds1, p1, q1, rfl, rfl, rfl, h1, hA⟩ := trodAll_cons hA
  obtain ⟨v2, vs2, d2, ds2, p2, q2, rfl, rfl, rfl, h2, hA⟩ := trodAll_cons hA
  obtain ⟨v3, vs3, d3, ds3, p3', q3, rfl, rfl, rfl, h3, hA⟩ := trodAll_cons hA
  obtain ⟨v4, vs4, d4, ds4, p4', q4, rfl, rfl, rfl, h4, hA⟩ := trodAll_cons hA
  obtain ⟨rfl, rfl, rfl⟩ := trodAll_nil hA
  obtain rfl : args = #[v0, v1, v2, v3, v4] := by cases args; simp_all
  obtain ⟨rfl, rfl⟩ := trodVars_none hV
  obtain ⟨x0, rfl, rfl, rfl, w0⟩ := open_int Tryz.underlying22 (hval 0 22 v0 rfl rfl) h0
  obtain ⟨x1, rfl, rfl, rfl, w1⟩ := open_int Tryz.underlying22 (hval 1 22 v1 rfl rfl) h1
  obtain ⟨x2, rfl, rfl, rfl, w2⟩ := open_int Tryz.underlying22 (hval 2 22 v2 rfl rfl) h2
  obtain ⟨s, rfl, rfl, rfl, w3⟩ := Go.ChangeMaps.open_string Tryz.underlying9 (hval 3 9 v3 rfl rfl) h3
  obtain ⟨x4, rfl, rfl, rfl, w4⟩ := open_int Tryz.underlying3 (hval 4 3 v4 rfl rfl) h4
  obtain ⟨rel, rfl, hrel⟩ := nat_of_wf w0
  obtain ⟨line, rfl, hline⟩ := nat_of_wf w1
  obtain ⟨dig, rfl, hdig⟩ := nat_of_wf w2
  obtain ⟨hk0, hk1⟩ := int_of_wf w4
  simp only [List.append_nil] at hW'
  refine (law_calls rel line dig hrel hline hdig s x4 hk0 hk1 W).mono fun e W' ⟨he, hk⟩ => ?_
  subst he
  exact ⟨_, rfl, _, _, _, [], [], [], hW', trodAll_mk1 (shut_bool Tryz.underlying4 _),
    trodAll_cons_mk (p := []) (shut_int Tryz.underlying22 w0) (trodAll_cons_mk (p := []) (shut_int Tryz.underlying22 w1) (trodAll_cons_mk (p := []) (shut_int Tryz.underlying22 w2) (trodAll_cons_mk (p := []) (Go.ChangeMaps.shut_string Tryz.underlying9 w3) (trodAll_mk1 (shut_int Tryz.underlying3 w4))))),
    rfl, World.keptBut_mono (fun _ f => f.elim) hk, fun h => by cases h⟩

theorem named3 : Tryz.prog.funcNamed "libevolution/libevolutionlaw28.ObjectNumbers" = some 3 := by kernel_rfl

theorem instance3 : Tryz.f3.isInstance Tryz.prog Rows.objectNumbersRow.origin Rows.objectNumbersRow.targs := of_decide_eq_true (by kernel_rfl)

theorem wrapper3 : Tryz.f3.isWrapper Tryz.prog Rows.objectNumbersRow.wrapper Rows.objectNumbersRow.mainSum := by
  unfold Func.isWrapper
  first | (rw [if_pos (by decide +kernel)]; kernel_rfl) | (rw [if_neg (by decide +kernel)]; exact ⟨rfl, rfl⟩)

theorem row_holds : Rows.ObjectNumbersSaid :=
  OpenClaim.holds_of_wide (p := Tryz.pinned) 3 Tryz.f3 rfl rfl rfl rfl rfl rfl rfl ⟨rfl, rfl, rfl, rfl, rfl⟩ rfl rfl rfl rfl rfl named3 Tryz.func3 joined_facts
    instance3 wrapper3
    (fun os started H enc _ => lifted os started H enc)

theorem card_holds : Rows.ObjectNumbersCardSaid :=
  Claim7.holds_tied_plain_at .later [] [.data, .data, .data, .data, .sentinel, .sentinel, .pinned] true (true, "f09e971645ec60e969a88859e4ccf16d7e604fa6336ed880d907e4dad58afc9c") true row_holds (fun _ h => by cases h) (by as_aux_lemma => kernel_rfl) (fun _ h => by cases h) objectNumbers_row_tie rfl ⟨rfl, rfl⟩ (by as_aux_lemma => kernel_rfl) rfl
    (fun f fn hf hfn => by
      obtain rfl : f = 3 := Option.some.inj ((show Tryz.prog.funcNamed "libevolution/libevolutionlaw28.ObjectNumbers" = some 3 from named3).symm.trans hf) |>.symm
      obtain rfl : fn = Tryz.f3 := (Option.some.inj (Tryz.func3.symm.trans hfn)).symm
      exact ⟨by as_aux_lemma => kernel_rfl, fun j t ht => by
        rw [Tryz.params3] at ht
        have hm : t ∈ [22, 22, 22, 9, 3] := by simpa using Array.mem_of_getElem? ht
        have hall : ([22, 22, 22, 9, 3].all fun u => !Tryz.prog.wantsStandIn u) = true := by as_aux_lemma => kernel_rfl
        exact (show Tryz.prog.wantsStandIn t = false by simpa using List.all_eq_true.1 hall t hm)⟩)
    (by as_aux_lemma => kernel_rfl)

#print axioms card_holds
end Go.Proofs.YtflciaomdlgjpaaGreatDoor

