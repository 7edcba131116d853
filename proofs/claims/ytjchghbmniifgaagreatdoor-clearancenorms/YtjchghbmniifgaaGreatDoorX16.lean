/- Proved: ClearanceNorms answers true for any two vectors of three int16, and leaves its arguments as they were; the row's listed variables are tied by the given tie. Conditions: those of the given row and card alone. -/
import Derived.Test.YtjchghbmniifgaaGreatDoorX00
import Derived.Test.YtjchghbmniifgaaGreatDoorX03
import Derived.Test.YtjchghbmniifgaaGreatDoorX15
set_option linter.unusedVariables false
set_option linter.unusedSimpArgs false
set_option linter.unusedSectionVars false
set_option linter.constructorNameAsVariable false
set_option linter.defProp false
set_option linter.unnecessarySimpa false
set_option autoImplicit false
set_option maxRecDepth 100000
namespace Go.Proofs.YtjchghbmniifgaaGreatDoor
open Go.AR Go.ChangeShapes Go.WideShapes Go.ChangeAt Go.RowKit
theorem open3 {W : World} {b : Nat} {r : Reach} {v : Value} (hv : Value.okWide Tryz.prog W r b 23 v) : ∃ x y z : Int, byte x ∧ byte y ∧ byte z ∧ ∀ Γ : G, V Γ (b3 .i16 x y z) v := by
  obtain ⟨cs, rfl, hs⟩ := flat_ok (ts := [22, 22, 22]) (by rw [Tryz.underlying23]; trivial) (by kernel_rfl) (by kernel_rfl) hv
  obtain ⟨x0, h0, g0⟩ := hs 0 22 rfl
  obtain ⟨x1, h1, g1⟩ := hs 1 22 rfl
  obtain ⟨x2, h2, g2⟩ := hs 2 22 rfl
  obtain ⟨x, rfl, r0⟩ := cell_int Tryz.underlying22 g0
  obtain ⟨y, rfl, r1⟩ := cell_int Tryz.underlying22 g1
  obtain ⟨z, rfl, r2⟩ := cell_int Tryz.underlying22 g2
  refine ⟨x, y, z, r0, r1, r2, fun Γ => .a _ cs ?_⟩
  have hl : cs.toList.length = 3 := by
    obtain ⟨cs', e, h3, _⟩ := flat_size (ts := [22, 22, 22]) (by rw [Tryz.underlying23]; trivial) (by kernel_rfl) hv
    cases e; simpa using h3
  have e : cs.toList = [.int .i16 x, .int .i16 y, .int .i16 z] := by
    match h : cs.toList, hl with
    | [a, b, c], _ =>
      rw [← Array.getElem?_toList, h] at h0 h1 h2
      simp at h0 h1 h2
      rw [h0, h1, h2]
  rw [e]
  exact .cons (.i _ _) (.cons (.i _ _) (.cons (.i _ _) .nil))
theorem norms_lifted (os : Os) (started : os.Started) (H : Type) (enc : TypeId × Value → H) :
    ReturnsInHanded {} Tryz.checked os 3 .any (fun w args => (Rows.clearanceNormsSpec.pre enc Tryz.prog Tryz.f3 Rows.clearanceNormsRow.domain false w args ∧ laidMetH Tryz.prog laidL w) ∧ sizedMet enc Tryz.prog Tryz.f3 (OpenSpec.ofChange Rows.clearanceNormsSpec) false w args)
      (Rows.clearanceNormsSpec.post enc Tryz.prog Tryz.f3 false true false false) := by
  refine handed_shaped (C := Tryz.checked) (X := fun w _ => laidMetH Tryz.prog laidL w) (fun _ _ _ hh h => h.of_heap hh) ownKn started clearanceNorms_noInit Tryz.func3
    (ChangeSpec.witness_shaped (enc := enc) (C := Tryz.checked) (os := os) (X := fun w _ => laidMetH Tryz.prog laidL w) false (World.laidAll Tryz.prog os laidL) #[.agg #[.int .i16 0, .int .i16 0, .int .i16 0], .agg #[.int .i16 0, .int .i16 0, .int .i16 0]] 8 (World.laidAll_os _ _ _)
      (World.shaped_of_ZipB (by kernel_rfl) (by kernel_rfl)) (by kernel_rfl) (by kernel_rfl) (by kernel_rfl) (laid_met os _)) ?_
  intro W base args ds gs before hsh hval0 hW hL
  have hval : ∀ (j : Nat) t v, Tryz.f3.params[j]? = some t → args[j]? = some v → Value.okWide Tryz.prog W .any base t v := hval0
  obtain ⟨hz, hcells⟩ := zone_ok hsh hL
  have hW' := hW
  obtain ⟨p, q, hA0, hV, rfl, _, _⟩ := hW
  have hA : DataW.TrodAll enc Tryz.prog W 0 (fun _ => true) true Tryz.f3.params.toList args.toList ds p := hA0
  rw [Tryz.params3] at hA hval
  obtain ⟨v0, v1, d0, d1, p0, p1, rfl, rfl, rfl, h0, h1⟩ := trodAll_two hA
  obtain ⟨rfl, rfl⟩ := trodVars_none hV
  obtain ⟨a, b, c, ha, hb, hc, V0⟩ := open3 (hval 0 23 v0 rfl rfl)
  obtain ⟨d, e, f, hd, he, hf, V1⟩ := open3 (hval 1 23 v1 rfl rfl)
  exact pure_post (P := Tryz.prog) (us := [b3 .i16 a b c, b3 .i16 d e f]) laidOk (pNorms hz ha hb hc hd he hf) hcells (.cons (V0 _) (.cons (V1 _) .nil)) rfl hW'
    (by rw [Tryz.params3]; intro t ht; have : t = 23 := by simpa using ht
        subst this; exact ⟨by kernel_rfl, of_decide_eq_true (by kernel_rfl)⟩) (by kernel_rfl) Tryz.underlying4 rfl
theorem norms_holds : Rows.ClearanceNormsSaid :=
  OpenClaim.holds_of_wide 3 Tryz.f3 rfl rfl rfl rfl rfl rfl rfl ⟨rfl, rfl, rfl, rfl, rfl⟩ rfl rfl rfl rfl rfl clearanceNorms_named Tryz.func3 clearanceNorms_facts clearanceNorms_inst clearanceNorms_wrap
    (fun os started H enc _ => norms_lifted os started H enc)
theorem clearanceNorms_holds : Rows.ClearanceNormsCardSaid :=
  Claim7.holds_tied_plain_at .later [] [.data, .data, .data, .data, .sentinel, .sentinel, .pinned] true (true, "062b658aabb290443ba23c78a64e7e77b16ab7ecb00fe0a681fc19af9b971ec8") true norms_holds (fun _ h => by cases h) clearanceNorms_byText (fun _ h => by cases h) clearanceNorms_row_tie rfl ⟨rfl, rfl⟩ clearanceNorms_main rfl
    (fun f fn hf hfn => by
      obtain rfl : f = 3 := Option.some.inj (clearanceNorms_named.symm.trans hf) |>.symm
      obtain rfl : fn = Tryz.f3 := (Option.some.inj (Tryz.func3.symm.trans hfn)).symm
      exact ⟨clearanceNorms_looks, fun j t ht => by
        rw [Tryz.params3] at ht
        have hm : t ∈ [23, 23] := by simpa using Array.mem_of_getElem? ht
        exact (show Tryz.prog.wantsStandIn t = false by simpa using List.all_eq_true.1 clearanceNorms_stand t hm)⟩)
    clearanceNorms_goes
end Go.Proofs.YtjchghbmniifgaaGreatDoor
