/- For every input, the Go function FnExactSameServer of the package laws returns true, and each argument reads afterwards as it read before. Conditions: none beyond the given statement's. -/
import Derived.Test.YthnpjdhdmdpapaaGreatE
import Derived.Test.YthnpjdhdmdpapaaGreatQ
import Derived.Test.YthnpjdhdmdpapaaGreatRows
import Derived.WalkKit
import Derived.ProofKit
import Derived.OpenShut
import Derived.ShutString
import Derived.ChangeOld
import Derived.Below
import Derived.SizedLaws
set_option linter.unusedVariables false
set_option linter.unusedSimpArgs false
namespace Go.Proofs.YthnpjdhdmdpapaaGreat.fnExactSameServer
open Go.ChangeShapes Go.WideShapes Go.ChangeAt Go.RowKit Go.Proofs.Vai
open Go.ChangeMaps (open_string shut_string)
set_option maxRecDepth 100000
theorem own : ownKnob Tryz.prog.godebug = none := by kernel_rfl
theorem laidOut : laidOutB Tryz.prog = true := by kernel_rfl
theorem pureL : PureLaw Tryz.prog TbW 12 3 [28, 28] := pure_law tabOK (tb := tbW) (e := e142) (k := 0 + 142 + 1) (o142 0) (by kernel_rfl) rfl (fun t h => ⟨true, Q.fnExactSameServer t h, 0, true, rfl, rfl⟩)
theorem lifted (os : Os) (started : os.Started) (H : Type) (enc : TypeId × Value → H) :
    ReturnsInHanded {} Tryz.checked os 3 .any (Rows.fnExactSameServerSpec.pre6 enc Tryz.prog Tryz.f3 Rows.fnExactSameServerRow.domain false) (Rows.fnExactSameServerSpec.post enc Tryz.prog Tryz.f3 false true false false) := by
  refine returnsInHanded_of_change_sized (C := Tryz.checked) own started (by kernel_rfl) Tryz.func3
    (ChangeSpec.witness6 (enc := enc) (C := Tryz.checked) false ⟨#[], #[.agg #[.int .i64 0, .int .i64 0, .bool false, .slice none 0 0, .slice none 0 0, .slice none 0 0, .slice none 0 0], .agg #[.int .i64 0, .int .i64 0, .bool false, .slice none 0 0, .slice none 0 0, .slice none 0 0, .slice none 0 0]], []⟩ 8 (by kernel_rfl) (by kernel_rfl) (by kernel_rfl) (by kernel_rfl)) ?_
  intro W base args ds gs before hval0 hW hcnd hsz0 _
  have hval : ∀ (j : Nat) t v, Tryz.f3.params[j]? = some t → args[j]? = some v → Value.okWide Tryz.prog W .any base t v := hval0
  have hW' := hW
  obtain ⟨p, q, hA0, hV, rfl, hfz, hnd⟩ := hW
  have hA : DataW.TrodAll enc Tryz.prog W 0 (fun _ => true) true Tryz.f3.params.toList args.toList ds p := hA0
  rw [Tryz.params3] at hA hval
  have hA2 := hA
  obtain ⟨v0, vs0, d0, ds0, p0, q0, hargs, rfl, rfl, h0, r0⟩ := trodAll_cons hA
  obtain ⟨v1, vs1, d1, ds1, p1, q1, rfl, rfl, rfl, h1, r1⟩ := trodAll_cons r0
  obtain ⟨rfl, rfl, rfl⟩ := trodAll_nil r1
  obtain ⟨rfl, rfl⟩ := trodVars_none hV
  have hcalls := law_calls (P := Tryz.prog) (by kernel_rfl) tok (n := 12) (f := 3) (ts := [28, 28]) (by kernel_rfl) pureL hA2 (fun j t v hj hv => hval j t v (by simpa using hj) hv) (by kernel_rfl)
  refine hcalls.mono fun e W' ⟨he, bel⟩ => ?_
  subst he
  exact ⟨_, rfl, _, _, _, [], _, [], hW', trodAll_mk1 (shut_bool Tryz.underlying4 _), back_all laidOut bel hA2 (by decide +kernel), rfl, bel.frame _, fun h => by cases h⟩
theorem over : Rows.fnExactSameServerRow.holds Tryz.pinned (OpenSpec.ofChange Rows.fnExactSameServerSpec) :=
  OpenClaim.holds_of_wide 3 Tryz.f3 rfl rfl rfl rfl rfl rfl rfl ⟨rfl, rfl, rfl, rfl, rfl⟩ rfl rfl rfl rfl rfl (by kernel_rfl) Tryz.func3 (by kernel_rfl)
    (of_decide_eq_true (by kernel_rfl)) (by unfold Func.isWrapper; first | (rw [if_pos (by decide +kernel)]; kernel_rfl) | (rw [if_neg (by decide +kernel)]; exact ⟨rfl, rfl⟩))
    (fun os started H enc _ => lifted os started H enc)
theorem proved : Rows.FnExactSameServerSaid := over
end Go.Proofs.YthnpjdhdmdpapaaGreat.fnExactSameServer
namespace Go.Proofs.YthnpjdhdmdpapaaGreat
theorem fnExactSameServer_holds : Rows.FnExactSameServerSaid := fnExactSameServer.proved
end Go.Proofs.YthnpjdhdmdpapaaGreat
