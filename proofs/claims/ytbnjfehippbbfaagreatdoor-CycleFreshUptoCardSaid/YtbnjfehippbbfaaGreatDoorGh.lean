/- Proved here, as a part of the claim: how the code of the program walks (CwBA). -/
import Derived.Test.YtbnjfehippbbfaaGreatDoorGg
import Derived.Test.YtbnjfehippbbfaaGreatDoorGb
import Derived.Test.YtbnjfehippbbfaaGreatDoorCards
import Derived.Test.YtbnjfehippbbfaaGreatDoorTie
import Derived.WalkKit
import Derived.ProofKit
import Derived.Deep.DeepHandedRow
import Derived.Lib.LaidTab
import Derived.Shelf.Vars
set_option linter.unusedVariables false
set_option linter.unusedSimpArgs false
namespace Go.Cw.Tryz
open Go.Proofs Go.Proofs.YtbnjfehippbbfaaGreatDoor Go.Cw Go.ChangeShapes Go.WideShapes Go.RowKit
theorem own : ownKnob Tryz.prog.godebug = none := by kernel_rfl
theorem kids : Kids Tryz.prog (· < Tryz.prog.types.size) := kids_rows (by kernel_rfl) (by kernel_rfl)
theorem full : ∀ t e, t < Tryz.prog.types.size → Tryz.prog.underlying t = some (.slice e) → 0 < Tryz.prog.cellsOf e := slices_full_of _ (by kernel_rfl)
theorem GL.of {w : World} (h : w.ShapedOpen Tryz.prog) : GL w := cell_of_shapedOpen_int (g := Tryz.laySplit_ren.g 1) (t := 3) (zero := #[.int .i64 0]) h (of_decide_eq_true (by kernel_rfl)) (by kernel_rfl) rfl (by kernel_rfl) (by kernel_rfl) Tryz.underlying3

/-! ### How much is read -/
theorem bulk_one {H : Type} (d : DataW H) : 1 ≤ Rows.uptoBulk d := by
  cases d with
  | lit l => cases l <;> simp [Rows.uptoBulk]
  | nil => simp [Rows.uptoBulk]
  | ptr d => simp [Rows.uptoBulk]
  | slice elems spare => simp [Rows.uptoBulk]
  | agg parts => simp [Rows.uptoBulk]
  | iface t d => simp [Rows.uptoBulk]
  | map entries => simp [Rows.uptoBulk]
  | held h => simp [Rows.uptoBulk]
theorem bulk_part {H : Type} {d : DataW H} {l : List (DataW H)} (h : d ∈ l) : Rows.uptoBulk d ≤ Rows.uptoBulkAll l := by
  induction l with
  | nil => cases h
  | cons x r ih =>
    simp only [Rows.uptoBulkAll]
    cases List.mem_cons.1 h with
    | inl e => subst e; omega
    | inr e => have := ih e; omega
theorem bulk_len {H : Type} (l : List (DataW H)) : l.length ≤ Rows.uptoBulkAll l := by
  induction l with
  | nil => simp [Rows.uptoBulkAll]
  | cons x r ih => have := bulk_one x; simp only [Rows.uptoBulkAll, List.length_cons]; omega
theorem bulk_small {H : Type} {l : List (DataW H)} (hk : Rows.uptoSmall H l = true) : Rows.uptoBulkAll l ≤ 1048576 := of_decide_eq_true hk

/-! ### The law's argument -/
section
variable {H : Type} {enc : TypeId × Value → H} {w : World} {base : Nat} {sp : Nat → Bool} {held : Bool}
def ReadL (a : Lab) (d : DataW H) : Prop := d = .agg [.lit (.string a.pkg.data.toList), .lit (.string a.nm.data.toList)]
theorem rds44 : Rds enc Tryz.prog w base sp held 44 (fun a => (elL.enc a).cells.toList) ReadL :=
  (rds_struct2 Tryz.underlying44 (rds_string Tryz.underlying9) (rds_string Tryz.underlying9) rfl (by kernel_rfl) (by kernel_rfl)).map (fun x => (⟨x.1, x.2⟩ : Lab)) (fun x => rfl) (fun x d ⟨d0, d1, h, h0, h1⟩ => by rw [h, h0, h1]; rfl)
def ReadD (x : Edi) (d : DataW H) : Prop := ∃ d0 d1, d = .agg [d0, d1, .lit (.bool x.2.2)] ∧ ReadL x.1 d0 ∧ ReadL x.2.1 d1
theorem rds55 : Rds enc Tryz.prog w base sp held 55 (fun a => (elD.enc a).cells.toList) ReadD :=
  (rds_struct3 Tryz.underlying55 rds44 rds44 (rds_bool Tryz.underlying4) rfl (by kernel_rfl) (by kernel_rfl) (by kernel_rfl)).map (fun x => (x : Edi)) (fun x => rfl) (fun x d ⟨d0, d1, d2, h, h0, h1, h2⟩ => ⟨d0, d1, by rw [h, h2], h0, h1⟩)
theorem readL_sm {a : Lab} {d : DataW H} (h : ReadL a d) : Cw.Sm a ∨ 1048576 < Rows.uptoBulk d := by
  by_cases hs : Rows.uptoBulk d ≤ 1048576
  · left
    rw [h] at hs
    simp only [Rows.uptoBulk, Rows.uptoBulkAll] at hs
    have h1 : a.pkg.size = a.pkg.data.toList.length := rfl
    have h2 : a.nm.size = a.nm.data.toList.length := rfl
    exact ⟨by omega, by omega⟩
  · exact .inr (by omega)
theorem readD_sm {x : Edi} {d : DataW H} (h : ReadD x d) (hb : Rows.uptoBulk d ≤ 1048576) : SmD x := by
  obtain ⟨d0, d1, rfl, h0, h1⟩ := h
  simp only [Rows.uptoBulk, Rows.uptoBulkAll] at hb
  exact ⟨(readL_sm h0).resolve_right (by omega), (readL_sm h1).resolve_right (by omega)⟩
theorem cells55 : Tryz.prog.cellsOf 55 = elD.size := by kernel_rfl
/-- The edges that are handed in. -/
theorem read22 {v : Value} {d : DataW H} {ps : List MemPlace} (hval : ∃ A n c, v = .slice A n c) (h : DataW.Trod enc Tryz.prog w base sp held 22 v d ps) (hb : Rows.uptoBulk d ≤ 1048576) :
    ∃ A c xs, v = .slice A (List.length xs) c ∧ SlA elD w A xs ∧ xs.length ≤ 10000000 ∧ ∀ x ∈ xs, SmD x := by
  obtain ⟨⟨⟨A, n, c⟩, xs⟩, hcs, hsl, hn, _, _, hd⟩ := (rds_slice elD Tryz.underlying22 cells55 rds55).trod h
  obtain ⟨A', n', c', rfl⟩ := hval
  have e : Value.slice A' n' c' = svV (A, n, c) := by simpa [Value.cells] using hcs
  dsimp only at hsl hn hd
  subst hn
  refine ⟨A, c, xs, e, hsl, ?_⟩
  rcases hd with ⟨_, rfl, _⟩ | ⟨elems, spare, rfl, hl, hr⟩
  · exact ⟨by simp, by simp⟩
  · simp only [Rows.uptoBulk] at hb
    have h1 := bulk_len elems
    refine ⟨by omega, fun x hx => ?_⟩
    obtain ⟨i, hi⟩ := List.mem_iff_getElem?.1 hx
    have hil : i < elems.length := by rw [hl]; exact (List.getElem?_eq_some_iff.1 hi).1
    have := bulk_part (List.getElem_mem hil)
    exact readD_sm (hr i x elems[i] hi (List.getElem?_eq_getElem hil)) (by omega)
end
end Go.Cw.Tryz
