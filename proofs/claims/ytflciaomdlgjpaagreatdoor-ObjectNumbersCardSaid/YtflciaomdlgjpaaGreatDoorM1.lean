/-
  The small form is the loaded program's.
-/
import Derived.Test.YtflciaomdlgjpaaGreatDoorW3
import Derived.Test.YtflciaomdlgjpaaGreatDoorV4
import Derived.Test.YtflciaomdlgjpaaGreatDoorProg
import Derived.KernelRfl
set_option linter.unusedVariables false
set_option linter.unusedSimpArgs false
namespace Go.Proofs.YtflciaomdlgjpaaGreatDoor.VVE.Obj
open Go Go.Proofs.YtflciaomdlgjpaaGreatDoor.VVE Go.Proofs

theorem c3 : chkFunc Tryz.prog p3 Tryz.f3 = true := by kernel_rfl
theorem c4 : chkFunc Tryz.prog p4 Tryz.f4 = true := by kernel_rfl
theorem c5 : chkFunc Tryz.prog p5 Tryz.f5 = true := by kernel_rfl
theorem c6 : chkFunc Tryz.prog p6 Tryz.f6 = true := by kernel_rfl
theorem c7 : chkFunc Tryz.prog p7 Tryz.f7 = true := by kernel_rfl
theorem c8 : chkFunc Tryz.prog p8 Tryz.f8 = true := by kernel_rfl
theorem c9 : chkFunc Tryz.prog p9 Tryz.f9 = true := by kernel_rfl
theorem c10 : chkFunc Tryz.prog p10 Tryz.f10 = true := by kernel_rfl
theorem c11 : chkFunc Tryz.prog p11 Tryz.f11 = true := by kernel_rfl
theorem c12 : chkFunc Tryz.prog p12 Tryz.f12 = true := by kernel_rfl
theorem c13 : chkFunc Tryz.prog p13 Tryz.f13 = true := by kernel_rfl
theorem c14 : chkFunc Tryz.prog p14 Tryz.f14 = true := by kernel_rfl
theorem c15 : chkFunc Tryz.prog p15 Tryz.f15 = true := by kernel_rfl
theorem c16 : chkFunc Tryz.prog p16 Tryz.f16 = true := by kernel_rfl
theorem c17 : chkFunc Tryz.prog p17 Tryz.f17 = true := by kernel_rfl
theorem c18 : chkFunc Tryz.prog p18 Tryz.f18 = true := by kernel_rfl
theorem c19 : chkFunc Tryz.prog p19 Tryz.f19 = true := by kernel_rfl
theorem c20 : chkFunc Tryz.prog p20 Tryz.f20 = true := by kernel_rfl
theorem c21 : chkFunc Tryz.prog p21 Tryz.f21 = true := by kernel_rfl
theorem c25 : chkFunc Tryz.prog p25 Tryz.f25 = true := by kernel_rfl
theorem c26 : chkFunc Tryz.prog p26 Tryz.f26 = true := by kernel_rfl
theorem c28 : chkFunc Tryz.prog p28 Tryz.f28 = true := by kernel_rfl
theorem c32 : chkFunc Tryz.prog p32 Tryz.f32 = true := by kernel_rfl
theorem c33 : chkFunc Tryz.prog p33 Tryz.f33 = true := by kernel_rfl
theorem c34 : chkFunc Tryz.prog p34 Tryz.f34 = true := by kernel_rfl
theorem c35 : chkFunc Tryz.prog p35 Tryz.f35 = true := by kernel_rfl
theorem c36 : chkFunc Tryz.prog p36 Tryz.f36 = true := by kernel_rfl
theorem c40 : chkFunc Tryz.prog p40 Tryz.f40 = true := by kernel_rfl
theorem c41 : chkFunc Tryz.prog p41 Tryz.f41 = true := by kernel_rfl
theorem c42 : chkFunc Tryz.prog p42 Tryz.f42 = true := by kernel_rfl
theorem c43 : chkFunc Tryz.prog p43 Tryz.f43 = true := by kernel_rfl
theorem c49 : chkFunc Tryz.prog p49 Tryz.f49 = true := by kernel_rfl
theorem c50 : chkFunc Tryz.prog p50 Tryz.f50 = true := by kernel_rfl
theorem c52 : chkFunc Tryz.prog p52 Tryz.f52 = true := by kernel_rfl
theorem c56 : chkFunc Tryz.prog p56 Tryz.f56 = true := by kernel_rfl
theorem c57 : chkFunc Tryz.prog p57 Tryz.f57 = true := by kernel_rfl
theorem c58 : chkFunc Tryz.prog p58 Tryz.f58 = true := by kernel_rfl
theorem c59 : chkFunc Tryz.prog p59 Tryz.f59 = true := by kernel_rfl
theorem c60 : chkFunc Tryz.prog p60 Tryz.f60 = true := by kernel_rfl
theorem c61 : chkFunc Tryz.prog p61 Tryz.f61 = true := by kernel_rfl
theorem c75 : chkFunc Tryz.prog p75 Tryz.f75 = true := by kernel_rfl
theorem c76 : chkFunc Tryz.prog p76 Tryz.f76 = true := by kernel_rfl
theorem c77 : chkFunc Tryz.prog p77 Tryz.f77 = true := by kernel_rfl
theorem c78 : chkFunc Tryz.prog p78 Tryz.f78 = true := by kernel_rfl
theorem c79 : chkFunc Tryz.prog p79 Tryz.f79 = true := by kernel_rfl
theorem c80 : chkFunc Tryz.prog p80 Tryz.f80 = true := by kernel_rfl
theorem c81 : chkFunc Tryz.prog p81 Tryz.f81 = true := by kernel_rfl
theorem c83 : chkFunc Tryz.prog p83 Tryz.f83 = true := by kernel_rfl
theorem c88 : chkFunc Tryz.prog p88 Tryz.f88 = true := by kernel_rfl
theorem c92 : chkFunc Tryz.prog p92 Tryz.f92 = true := by kernel_rfl
theorem c98 : chkFunc Tryz.prog p98 Tryz.f98 = true := by kernel_rfl
theorem c111 : chkFunc Tryz.prog p111 Tryz.f111 = true := by kernel_rfl
theorem c123 : chkFunc Tryz.prog p123 Tryz.f123 = true := by kernel_rfl
theorem c124 : chkFunc Tryz.prog p124 Tryz.f124 = true := by kernel_rfl
theorem c125 : chkFunc Tryz.prog p125 Tryz.f125 = true := by kernel_rfl
theorem c126 : chkFunc Tryz.prog p126 Tryz.f126 = true := by kernel_rfl
theorem c127 : chkFunc Tryz.prog p127 Tryz.f127 = true := by kernel_rfl
theorem c128 : chkFunc Tryz.prog p128 Tryz.f128 = true := by kernel_rfl
theorem c129 : chkFunc Tryz.prog p129 Tryz.f129 = true := by kernel_rfl
theorem c131 : chkFunc Tryz.prog p131 Tryz.f131 = true := by kernel_rfl
theorem c136 : chkFunc Tryz.prog p136 Tryz.f136 = true := by kernel_rfl
theorem c140 : chkFunc Tryz.prog p140 Tryz.f140 = true := by kernel_rfl
theorem c146 : chkFunc Tryz.prog p146 Tryz.f146 = true := by kernel_rfl
theorem c151 : chkFunc Tryz.prog p151 Tryz.f151 = true := by kernel_rfl
theorem c161 : chkFunc Tryz.prog p161 Tryz.f161 = true := by kernel_rfl
theorem c162 : chkFunc Tryz.prog p162 Tryz.f162 = true := by kernel_rfl
theorem c183 : chkFunc Tryz.prog p183 Tryz.f183 = true := by kernel_rfl
theorem c200 : chkFunc Tryz.prog p200 Tryz.f200 = true := by kernel_rfl

theorem matches_prg : Matches Tryz.prog prg := by
  intro f fn h
  unfold prg at h
  split at h
  · cases h; exact ⟨_, Tryz.func3, c3⟩
  · cases h; exact ⟨_, Tryz.func4, c4⟩
  · cases h; exact ⟨_, Tryz.func5, c5⟩
  · cases h; exact ⟨_, Tryz.func6, c6⟩
  · cases h; exact ⟨_, Tryz.func7, c7⟩
  · cases h; exact ⟨_, Tryz.func8, c8⟩
  · cases h; exact ⟨_, Tryz.func9, c9⟩
  · cases h; exact ⟨_, Tryz.func10, c10⟩
  · cases h; exact ⟨_, Tryz.func11, c11⟩
  · cases h; exact ⟨_, Tryz.func12, c12⟩
  · cases h; exact ⟨_, Tryz.func13, c13⟩
  · cases h; exact ⟨_, Tryz.func14, c14⟩
  · cases h; exact ⟨_, Tryz.func15, c15⟩
  · cases h; exact ⟨_, Tryz.func16, c16⟩
  · cases h; exact ⟨_, Tryz.func17, c17⟩
  · cases h; exact ⟨_, Tryz.func18, c18⟩
  · cases h; exact ⟨_, Tryz.func19, c19⟩
  · cases h; exact ⟨_, Tryz.func20, c20⟩
  · cases h; exact ⟨_, Tryz.func21, c21⟩
  · cases h; exact ⟨_, Tryz.func25, c25⟩
  · cases h; exact ⟨_, Tryz.func26, c26⟩
  · cases h; exact ⟨_, Tryz.func28, c28⟩
  · cases h; exact ⟨_, Tryz.func32, c32⟩
  · cases h; exact ⟨_, Tryz.func33, c33⟩
  · cases h; exact ⟨_, Tryz.func34, c34⟩
  · cases h; exact ⟨_, Tryz.func35, c35⟩
  · cases h; exact ⟨_, Tryz.func36, c36⟩
  · cases h; exact ⟨_, Tryz.func40, c40⟩
  · cases h; exact ⟨_, Tryz.func41, c41⟩
  · cases h; exact ⟨_, Tryz.func42, c42⟩
  · cases h; exact ⟨_, Tryz.func43, c43⟩
  · cases h; exact ⟨_, Tryz.func49, c49⟩
  · cases h; exact ⟨_, Tryz.func50, c50⟩
  · cases h; exact ⟨_, Tryz.func52, c52⟩
  · cases h; exact ⟨_, Tryz.func56, c56⟩
  · cases h; exact ⟨_, Tryz.func57, c57⟩
  · cases h; exact ⟨_, Tryz.func58, c58⟩
  · cases h; exact ⟨_, Tryz.func59, c59⟩
  · cases h; exact ⟨_, Tryz.func60, c60⟩
  · cases h; exact ⟨_, Tryz.func61, c61⟩
  · cases h; exact ⟨_, Tryz.func75, c75⟩
  · cases h; exact ⟨_, Tryz.func76, c76⟩
  · cases h; exact ⟨_, Tryz.func77, c77⟩
  · cases h; exact ⟨_, Tryz.func78, c78⟩
  · cases h; exact ⟨_, Tryz.func79, c79⟩
  · cases h; exact ⟨_, Tryz.func80, c80⟩
  · cases h; exact ⟨_, Tryz.func81, c81⟩
  · cases h; exact ⟨_, Tryz.func83, c83⟩
  · cases h; exact ⟨_, Tryz.func88, c88⟩
  · cases h; exact ⟨_, Tryz.func92, c92⟩
  · cases h; exact ⟨_, Tryz.func98, c98⟩
  · cases h; exact ⟨_, Tryz.func111, c111⟩
  · cases h; exact ⟨_, Tryz.func123, c123⟩
  · cases h; exact ⟨_, Tryz.func124, c124⟩
  · cases h; exact ⟨_, Tryz.func125, c125⟩
  · cases h; exact ⟨_, Tryz.func126, c126⟩
  · cases h; exact ⟨_, Tryz.func127, c127⟩
  · cases h; exact ⟨_, Tryz.func128, c128⟩
  · cases h; exact ⟨_, Tryz.func129, c129⟩
  · cases h; exact ⟨_, Tryz.func131, c131⟩
  · cases h; exact ⟨_, Tryz.func136, c136⟩
  · cases h; exact ⟨_, Tryz.func140, c140⟩
  · cases h; exact ⟨_, Tryz.func146, c146⟩
  · cases h; exact ⟨_, Tryz.func151, c151⟩
  · cases h; exact ⟨_, Tryz.func161, c161⟩
  · cases h; exact ⟨_, Tryz.func162, c162⟩
  · cases h; exact ⟨_, Tryz.func183, c183⟩
  · cases h; exact ⟨_, Tryz.func200, c200⟩
  · cases h

end Go.Proofs.YtflciaomdlgjpaaGreatDoor.VVE.Obj

