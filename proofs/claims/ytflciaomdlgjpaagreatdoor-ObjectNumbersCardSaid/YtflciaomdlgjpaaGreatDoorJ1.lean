/-
  The closed facts of the row, one by one.
-/
import Derived.Test.YtflciaomdlgjpaaGreatDoorRows
import Derived.JoinedOf
import Derived.KernelRfl
set_option linter.unusedVariables false
set_option linter.unusedSimpArgs false
namespace Go.Proofs.YtflciaomdlgjpaaGreatDoor
open Go

def jF0 (P : Program) (f : FuncId) (fn : Func) (s : ChangeSpec) (c : OpenClaim) : Bool := c.wf (OpenSpec.ofChange s)
def jF1 (P : Program) (f : FuncId) (fn : Func) (s : ChangeSpec) (c : OpenClaim) : Bool := laidOutB P
def jF2 (P : Program) (f : FuncId) (fn : Func) (s : ChangeSpec) (c : OpenClaim) : Bool := mapsRowed P
def jF3 (P : Program) (f : FuncId) (fn : Func) (s : ChangeSpec) (c : OpenClaim) : Bool := fn.params.all (P.readableRec ·)
def jF4 (P : Program) (f : FuncId) (fn : Func) (s : ChangeSpec) (c : OpenClaim) : Bool := namedTie P c.named s.vars
def jF5 (P : Program) (f : FuncId) (fn : Func) (s : ChangeSpec) (c : OpenClaim) : Bool := (c.stops == [])
def jF6 (P : Program) (f : FuncId) (fn : Func) (s : ChangeSpec) (c : OpenClaim) : Bool := (P.stops == [])
def jF7 (P : Program) (f : FuncId) (fn : Func) (s : ChangeSpec) (c : OpenClaim) : Bool := (c.knobs == [])
def jF8 (P : Program) (f : FuncId) (fn : Func) (s : ChangeSpec) (c : OpenClaim) : Bool := (P.stopKnobs == [])
def jF9 (P : Program) (f : FuncId) (fn : Func) (s : ChangeSpec) (c : OpenClaim) : Bool := (c.inPlace == P.inPlace f)
def jF10 (P : Program) (f : FuncId) (fn : Func) (s : ChangeSpec) (c : OpenClaim) : Bool := (c.unfollowed == P.unfollowed f)
def jF11 (P : Program) (f : FuncId) (fn : Func) (s : ChangeSpec) (c : OpenClaim) : Bool := (c.recurses == P.recurses f)
def jF12 (P : Program) (f : FuncId) (fn : Func) (s : ChangeSpec) (c : OpenClaim) : Bool := (c.named == P.varsNamed f)
def jF13 (P : Program) (f : FuncId) (fn : Func) (s : ChangeSpec) (c : OpenClaim) : Bool := (c.maps == (fn.params.toList ++ s.plain.varTypes P).any (P.mapsRec ·))
def jF14 (P : Program) (f : FuncId) (fn : Func) (s : ChangeSpec) (c : OpenClaim) : Bool := (c.ifaces == (fn.params.toList ++ s.plain.varTypes P).any (P.ifacesRec ·))
def jF15 (P : Program) (f : FuncId) (fn : Func) (s : ChangeSpec) (c : OpenClaim) : Bool := (c.mapsOut == P.mapsAmong fn.resultTypes.toList)
def jF16 (P : Program) (f : FuncId) (fn : Func) (s : ChangeSpec) (c : OpenClaim) : Bool := (c.loops == (fn.params.toList ++ s.plain.varTypes P).any (P.loopsFrom ·))
def jF17 (P : Program) (f : FuncId) (fn : Func) (s : ChangeSpec) (c : OpenClaim) : Bool := (c.wideKeys == (fn.params.toList ++ s.plain.varTypes P ++ fn.resultTypes.toList).any (P.wideKeysFrom ·))
def jF18 (P : Program) (f : FuncId) (fn : Func) (s : ChangeSpec) (c : OpenClaim) : Bool := s.vars.all (P.varReadable ·)
def jF19 (P : Program) (f : FuncId) (fn : Func) (s : ChangeSpec) (c : OpenClaim) : Bool := fn.resultTypes.all (fun t => P.readableRec t && decide (t < P.types.size))
def jF20 (P : Program) (f : FuncId) (fn : Func) (s : ChangeSpec) (c : OpenClaim) : Bool := (c.ifacesOut == fn.resultTypes.toList.any (P.ifacesRec ·))
def jF21 (P : Program) (f : FuncId) (fn : Func) (s : ChangeSpec) (c : OpenClaim) : Bool := (c.loopsOut == fn.resultTypes.toList.any (P.loopsFrom ·))
def jF22 (P : Program) (f : FuncId) (fn : Func) (s : ChangeSpec) (c : OpenClaim) : Bool := (c.plainKeys == P.plainKeys)
def jF23 (P : Program) (f : FuncId) (fn : Func) (s : ChangeSpec) (c : OpenClaim) : Bool := c.shortTexts.isNone
def jF24 (P : Program) (f : FuncId) (fn : Func) (s : ChangeSpec) (c : OpenClaim) : Bool := P.stopsHeard
def jF25 (P : Program) (f : FuncId) (fn : Func) (s : ChangeSpec) (c : OpenClaim) : Bool := P.mayEnter
def jF26 (P : Program) (f : FuncId) (fn : Func) (s : ChangeSpec) (c : OpenClaim) : Bool := (c.lifted == P.liftsFinal)
def jF27 (P : Program) (f : FuncId) (fn : Func) (s : ChangeSpec) (c : OpenClaim) : Bool := (P.make == some c.make)
def jF28 (P : Program) (f : FuncId) (fn : Func) (s : ChangeSpec) (c : OpenClaim) : Bool := (c.kinds == (if c.domain.isEmpty then [] else fn.params.toList.map fun t => match P.underlying t with | some (.int k) => some k | _ => none))
def jF29 (P : Program) (f : FuncId) (fn : Func) (s : ChangeSpec) (c : OpenClaim) : Bool := (c.pinned == c.pinnedBy)
def jF30 (P : Program) (f : FuncId) (fn : Func) (s : ChangeSpec) (c : OpenClaim) : Bool := (c.veiled == (fn.params.toList ++ s.plain.varTypes P ++ fn.resultTypes.toList).any (P.veiledRec ·))
def jF31 (P : Program) (f : FuncId) (fn : Func) (s : ChangeSpec) (c : OpenClaim) : Bool := c.veiledFits P fn.params.toList (fn.params.toList ++ s.plain.varTypes P ++ fn.resultTypes.toList)

theorem and_mk {a b : Bool} (h : a = true) (h' : b = true) : (a && b) = true := by rw [h, h']; rfl

theorem joined_of {P : Program} {f : FuncId} {fn : Func} {s : ChangeSpec} {c : OpenClaim} (h0 : jF0 P f fn s c = true) (h1 : jF1 P f fn s c = true) (h2 : jF2 P f fn s c = true) (h3 : jF3 P f fn s c = true) (h4 : jF4 P f fn s c = true) (h5 : jF5 P f fn s c = true) (h6 : jF6 P f fn s c = true) (h7 : jF7 P f fn s c = true) (h8 : jF8 P f fn s c = true) (h9 : jF9 P f fn s c = true) (h10 : jF10 P f fn s c = true) (h11 : jF11 P f fn s c = true) (h12 : jF12 P f fn s c = true) (h13 : jF13 P f fn s c = true) (h14 : jF14 P f fn s c = true) (h15 : jF15 P f fn s c = true) (h16 : jF16 P f fn s c = true) (h17 : jF17 P f fn s c = true) (h18 : jF18 P f fn s c = true) (h19 : jF19 P f fn s c = true) (h20 : jF20 P f fn s c = true) (h21 : jF21 P f fn s c = true) (h22 : jF22 P f fn s c = true) (h23 : jF23 P f fn s c = true) (h24 : jF24 P f fn s c = true) (h25 : jF25 P f fn s c = true) (h26 : jF26 P f fn s c = true) (h27 : jF27 P f fn s c = true) (h28 : jF28 P f fn s c = true) (h29 : jF29 P f fn s c = true) (h30 : jF30 P f fn s c = true) (h31 : jF31 P f fn s c = true) : joinedFacts P f fn s c = true := by
  unfold joinedFacts
  refine and_mk ?_ h31
  refine and_mk ?_ h30
  refine and_mk ?_ h29
  refine and_mk ?_ h28
  refine and_mk ?_ h27
  refine and_mk ?_ h26
  refine and_mk ?_ h25
  refine and_mk ?_ h24
  refine and_mk ?_ h23
  refine and_mk ?_ h22
  refine and_mk ?_ h21
  refine and_mk ?_ h20
  refine and_mk ?_ h19
  refine and_mk ?_ h18
  refine and_mk ?_ h17
  refine and_mk ?_ h16
  refine and_mk ?_ h15
  refine and_mk ?_ h14
  refine and_mk ?_ h13
  refine and_mk ?_ h12
  refine and_mk ?_ h11
  refine and_mk ?_ h10
  refine and_mk ?_ h9
  refine and_mk ?_ h8
  refine and_mk ?_ h7
  refine and_mk ?_ h6
  refine and_mk ?_ h5
  refine and_mk ?_ h4
  refine and_mk ?_ h3
  refine and_mk ?_ h2
  refine and_mk ?_ h1
  exact h0

theorem jfact0 : jF0 Tryz.prog 3 Tryz.f3 Rows.objectNumbersSpec Rows.objectNumbersRow = true := by kernel_rfl
theorem jfact1 : jF1 Tryz.prog 3 Tryz.f3 Rows.objectNumbersSpec Rows.objectNumbersRow = true := by kernel_rfl
theorem jfact2 : jF2 Tryz.prog 3 Tryz.f3 Rows.objectNumbersSpec Rows.objectNumbersRow = true := by kernel_rfl
theorem jfact3 : jF3 Tryz.prog 3 Tryz.f3 Rows.objectNumbersSpec Rows.objectNumbersRow = true := by kernel_rfl
theorem jfact4 : jF4 Tryz.prog 3 Tryz.f3 Rows.objectNumbersSpec Rows.objectNumbersRow = true := by kernel_rfl
theorem jfact5 : jF5 Tryz.prog 3 Tryz.f3 Rows.objectNumbersSpec Rows.objectNumbersRow = true := by kernel_rfl
theorem jfact6 : jF6 Tryz.prog 3 Tryz.f3 Rows.objectNumbersSpec Rows.objectNumbersRow = true := by kernel_rfl
theorem jfact7 : jF7 Tryz.prog 3 Tryz.f3 Rows.objectNumbersSpec Rows.objectNumbersRow = true := by kernel_rfl
theorem jfact8 : jF8 Tryz.prog 3 Tryz.f3 Rows.objectNumbersSpec Rows.objectNumbersRow = true := by kernel_rfl
theorem jfact9 : jF9 Tryz.prog 3 Tryz.f3 Rows.objectNumbersSpec Rows.objectNumbersRow = true := by kernel_rfl
theorem jfact10 : jF10 Tryz.prog 3 Tryz.f3 Rows.objectNumbersSpec Rows.objectNumbersRow = true := by kernel_rfl
theorem jfact11 : jF11 Tryz.prog 3 Tryz.f3 Rows.objectNumbersSpec Rows.objectNumbersRow = true := by kernel_rfl
theorem jfact12 : jF12 Tryz.prog 3 Tryz.f3 Rows.objectNumbersSpec Rows.objectNumbersRow = true := by kernel_rfl
theorem jfact13 : jF13 Tryz.prog 3 Tryz.f3 Rows.objectNumbersSpec Rows.objectNumbersRow = true := by kernel_rfl
theorem jfact14 : jF14 Tryz.prog 3 Tryz.f3 Rows.objectNumbersSpec Rows.objectNumbersRow = true := by kernel_rfl
theorem jfact15 : jF15 Tryz.prog 3 Tryz.f3 Rows.objectNumbersSpec Rows.objectNumbersRow = true := by kernel_rfl
theorem jfact16 : jF16 Tryz.prog 3 Tryz.f3 Rows.objectNumbersSpec Rows.objectNumbersRow = true := by kernel_rfl
theorem jfact17 : jF17 Tryz.prog 3 Tryz.f3 Rows.objectNumbersSpec Rows.objectNumbersRow = true := by kernel_rfl
theorem jfact18 : jF18 Tryz.prog 3 Tryz.f3 Rows.objectNumbersSpec Rows.objectNumbersRow = true := by kernel_rfl
theorem jfact19 : jF19 Tryz.prog 3 Tryz.f3 Rows.objectNumbersSpec Rows.objectNumbersRow = true := by kernel_rfl
theorem jfact20 : jF20 Tryz.prog 3 Tryz.f3 Rows.objectNumbersSpec Rows.objectNumbersRow = true := by kernel_rfl
theorem jfact21 : jF21 Tryz.prog 3 Tryz.f3 Rows.objectNumbersSpec Rows.objectNumbersRow = true := by kernel_rfl
theorem jfact22 : jF22 Tryz.prog 3 Tryz.f3 Rows.objectNumbersSpec Rows.objectNumbersRow = true := by kernel_rfl
theorem jfact23 : jF23 Tryz.prog 3 Tryz.f3 Rows.objectNumbersSpec Rows.objectNumbersRow = true := by kernel_rfl
theorem jfact24 : jF24 Tryz.prog 3 Tryz.f3 Rows.objectNumbersSpec Rows.objectNumbersRow = true := by kernel_rfl
theorem jfact25 : jF25 Tryz.prog 3 Tryz.f3 Rows.objectNumbersSpec Rows.objectNumbersRow = true := by kernel_rfl
theorem jfact26 : jF26 Tryz.prog 3 Tryz.f3 Rows.objectNumbersSpec Rows.objectNumbersRow = true := by kernel_rfl
theorem jfact27 : jF27 Tryz.prog 3 Tryz.f3 Rows.objectNumbersSpec Rows.objectNumbersRow = true := by kernel_rfl
theorem jfact28 : jF28 Tryz.prog 3 Tryz.f3 Rows.objectNumbersSpec Rows.objectNumbersRow = true := by kernel_rfl
theorem jfact29 : jF29 Tryz.prog 3 Tryz.f3 Rows.objectNumbersSpec Rows.objectNumbersRow = true := by kernel_rfl
theorem jfact30 : jF30 Tryz.prog 3 Tryz.f3 Rows.objectNumbersSpec Rows.objectNumbersRow = true := by kernel_rfl
theorem jfact31 : jF31 Tryz.prog 3 Tryz.f3 Rows.objectNumbersSpec Rows.objectNumbersRow = true := by kernel_rfl

theorem joined_facts : joinedFacts Tryz.prog 3 Tryz.f3 Rows.objectNumbersSpec Rows.objectNumbersRow = true :=
  joined_of jfact0 jfact1 jfact2 jfact3 jfact4 jfact5 jfact6 jfact7 jfact8 jfact9 jfact10 jfact11 jfact12 jfact13 jfact14 jfact15 jfact16 jfact17 jfact18 jfact19 jfact20 jfact21 jfact22 jfact23 jfact24 jfact25 jfact26 jfact27 jfact28 jfact29 jfact30 jfact31
end Go.Proofs.YtflciaomdlgjpaaGreatDoor

