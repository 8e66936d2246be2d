/- Proved here, as a part of the claim: how the code of the program walks (CwA, CwB, CwC, CwD, CwE, CwF, CwG, CwH, CwI, CwJ, CwL, CwM). -/
import Derived.Test.YtbnjfehippbbfaaGreatDoorGb
import Derived.Test.YtbnjfehippbbfaaGreatDoorGc
set_option linter.unusedVariables false
namespace Go.Cw.Tryz
open Go.Proofs Go.Cw
attribute [local irreducible] Go.Addr.add

def encL (a : Lab) : Value := .agg #[.string a.pkg, .string a.nm]
def elL : El Tryz.prog Lab := {
  ty := 44
  size := 2
  bytes := 32
  enc := encL
  zero := .agg #[.string ByteArray.empty, .string ByteArray.empty]
  info := by kernel_rfl
  zsize := rfl
  pos := by decide
  posb := by decide
  cells := fun _ => rfl
  one := fun x u hu => by
    have : u = .string x.pkg ∨ u = .string x.nm := by simpa [encL, Value.cells] using hu
    rcases this with rfl | rfl <;> rfl
  ld := fun w p x h => LD.many (cs := [.string x.pkg, .string x.nm]) rfl h }

theorem fields44 : (Tryz.prog.fieldsOf 44).toList = [{ name := "Pkg", type := 9, offset := 0, embedded := false, tag := "", pkgPath := "", byteOffset := 0 }, { name := "Name", type := 9, offset := 1, embedded := false, tag := "", pkgPath := "", byteOffset := 16 }] := by kernel_rfl
theorem EqR44 (d : Nat) (a b : Lab) : EqR Tryz.prog (d + 2) 44 (encL a) (encL b) (decide (a = b)) := by
  have h : EqR Tryz.prog (d + 2) 44 (encL a) (encL b) (decide (a.pkg = b.pkg) && (decide (a.nm = b.nm) && true)) :=
    EqR.struct (by kernel_rfl) fields44 (by kernel_rfl) (EqF.cons1 (by decide) rfl rfl EqR.str (EqF.cons1 (by decide) rfl rfl EqR.str EqF.nil))
  have e : (decide (a.pkg = b.pkg) && (decide (a.nm = b.nm) && true)) = decide (a = b) := by
    obtain ⟨p, q⟩ := a
    obtain ⟨p', q'⟩ := b
    simp
  rw [← e]; exact h
theorem BVeq44 {a b : Lab} : BV Tryz.prog .eql 44 (encL a) (encL b) (.bool (decide (a = b))) := BV.eqAgg (by kernel_rfl) (EqR44 9997 a b)
theorem BVne44 {a b : Lab} : BV Tryz.prog .neq 44 (encL a) (encL b) (.bool (!decide (a = b))) := BV.neAgg (by kernel_rfl) (EqR44 9997 a b)

theorem In_spec (w0 : World) (A : Option Addr) (c : Nat) (xs : List Lab) (a : Lab) (hx : SlA elL w0 A xs) (hl : xs.length ≤ 1073741824) :
    T1 Tryz.prog 22 [.slice A xs.length c, encL a] w0 fun v w' => v = .bool (decide (a ∈ xs)) := by
  refine KW.enterT1 (n := 18) Tryz.func22 rfl rfl rfl ?_
  have hs := St.init w0 noS
  refine KW.seq ?_
  refine CW.region (S := noS) [(0, .l), (1, .q)] rfl ?_
  refine EW.box hs rfl rfl rfl rfl rfl rfl ?_
  clear hs; intro b3 w hs
  refine EW.assign rfl rfl rfl rfl rfl rfl ?_
  refine EW.done ?_
  refine NW.seq ?_
  refine KW.seq ?_
  refine KW.seq ?_
  refine CW.region (S := noS) [(0, .q)] rfl ?_
  refine EW.assign rfl rfl rfl rfl rfl rfl ?_
  refine EW.done ?_
  refine NW.seq ?_
  refine KW.block ?_
  refine KW.loop (ι := Nat) (fun k => xs.length - k) (fun k => [(0, .slice A xs.length c), (3, .pointer (some ⟨b3, 0, none⟩)), (5, .int .i64 (k : Int))]) (fun k w => k ≤ xs.length ∧ (∀ x ∈ xs.take k, x ≠ a) ∧ St w0 noS w [pt b3 (.cells (encL a).cells 44)]) 0 (by repeat (first | exact trivial | (refine ⟨by first | rfl | (congr 2; omega) | (simp; done) | (congr 1; simp; done), ?_⟩))) ?_ ?_
  · exact ⟨Nat.zero_le _, by simp, hs⟩
  clear hs w
  rintro k w ⟨hk, hne, hs⟩
  refine KW.seq ?_
  refine KW.seq ?_
  refine CW.region (S := noS) [(0, .q), (1, .q), (2, .q), (3, .q)] rfl ?_
  refine EW.move rfl rfl rfl rfl rfl rfl ?_
  refine EW.move rfl rfl rfl rfl rfl rfl ?_
  refine EW.len rfl rfl rfl rfl rfl rfl ?_
  refine EW.bin rfl rfl rfl rfl rfl rfl rfl BV.lss ?_
  refine EW.done ?_
  refine NW.seq ?_
  by_cases hlt : k < xs.length
  · refine CW.cond_t rfl (by simpa using hlt) ?_
    obtain ⟨ad, rfl, _, hld⟩ := hx.at_ hlt
    have hld1 : LDP Tryz.prog w 44 (ad.add ((k : Int).toNat * 2)) (encL xs[k]) := (hld k xs[k] (by simp)).keep hs.keep (fun h => h)
    refine KW.skip ?_
    refine NW.seq ?_
    refine KW.seq ?_
    refine KW.block ?_
    refine KW.seq ?_
    refine CW.regionD (noS) [(0, .q), (1, .q), (2, .q), (3, .q), (4, .q), (5, .q)] mixed (by kernel_rfl) ?_
    replace hs := hs.drew
    refine EW.move rfl rfl rfl rfl rfl rfl ?_
    refine EW.move rfl rfl rfl rfl rfl rfl ?_
    refine EW.indexAddr rfl rfl rfl rfl rfl rfl rfl (by omega) (by omega) ?_
    refine EW.loadP rfl rfl rfl rfl rfl rfl (by first | assumption | (apply LDP.drew; assumption) | exact St.ld1 hs 0 rfl rfl | exact St.ldA hs 0 rfl rfl rfl | exact St.ld1 hs 1 rfl rfl | exact St.ldA hs 1 rfl rfl rfl | exact St.ld1 hs 2 rfl rfl | exact St.ldA hs 2 rfl rfl rfl | exact St.ld1 hs 3 rfl rfl | exact St.ldA hs 3 rfl rfl rfl | exact St.ld1 hs 4 rfl rfl | exact St.ldA hs 4 rfl rfl rfl | exact St.ld1 hs 5 rfl rfl | exact St.ldA hs 5 rfl rfl rfl | exact St.ld1 hs 6 rfl rfl | exact St.ldA hs 6 rfl rfl rfl) (by first | exact .inl rfl | exact .inr (fun h => h)) ?_
    refine EW.loadP rfl rfl rfl rfl rfl rfl (by first | assumption | (apply LDP.drew; assumption) | exact St.ld1 hs 0 rfl rfl | exact St.ldA hs 0 rfl rfl rfl | exact St.ld1 hs 1 rfl rfl | exact St.ldA hs 1 rfl rfl rfl | exact St.ld1 hs 2 rfl rfl | exact St.ldA hs 2 rfl rfl rfl | exact St.ld1 hs 3 rfl rfl | exact St.ldA hs 3 rfl rfl rfl | exact St.ld1 hs 4 rfl rfl | exact St.ldA hs 4 rfl rfl rfl | exact St.ld1 hs 5 rfl rfl | exact St.ldA hs 5 rfl rfl rfl | exact St.ld1 hs 6 rfl rfl | exact St.ldA hs 6 rfl rfl rfl) (by first | exact .inl rfl | exact .inr (fun h => h)) ?_
    refine EW.bin rfl rfl rfl rfl rfl rfl rfl (BVeq44) ?_
    refine EW.done ?_
    refine NW.seq ?_
    refine KW.cond rfl (fun heq => ?_) (fun heq => ?_)
    · skip
      refine KW.seq ?_
      refine CW.region (S := noS) [(0, .q)] rfl ?_
      refine EW.assign rfl rfl rfl rfl rfl rfl ?_
      refine EW.done ?_
      refine NW.seq ?_
      refine KW.ret1 rfl rfl ?_
      refine ⟨_, rfl, hs.keep, ?_⟩
      have hm : a ∈ xs := by
        have : xs[k] = a := by simpa using heq
        rw [← this]; exact List.getElem_mem _
      simp [hm]
    · skip
      refine KW.skip ?_
      refine NW.blk ?_
      refine NW.seq ?_
      refine CW.region (S := noS) [(0, .q), (1, .q), (2, .q)] rfl ?_
      refine EW.move rfl rfl rfl rfl rfl rfl ?_
      refine EW.bin rfl rfl rfl rfl rfl rfl rfl (BV.add (wrap_i64 (by omega) (by omega))) ?_
      refine EW.assign rfl rfl rfl rfl rfl rfl ?_
      refine EW.done ?_
      refine NW.again (k + 1) (by first | (dsimp only; omega) | omega | (simp; omega)) (by repeat (first | exact trivial | (refine ⟨by first | rfl | (congr 2; omega) | (simp; done) | (congr 1; simp; done), ?_⟩))) ?_
      try dsimp only
      refine ⟨hlt, fun x hx' => ?_, hs⟩
      rw [List.take_succ_eq_append_getElem hlt, List.mem_append] at hx'
      rcases hx' with h | h
      · exact hne x h
      · simp at h; subst h; simpa using heq
  · refine CW.cond_f rfl (by simpa using hlt) ?_
    refine KW.exit ?_
    refine XW.seq ?_
    refine XW.inv ?_
    refine XW.blk ?_
    refine NW.seq ?_
    refine KW.seq ?_
    refine CW.region (S := noS) [(0, .q)] rfl ?_
    refine EW.assign rfl rfl rfl rfl rfl rfl ?_
    refine EW.done ?_
    refine NW.seq ?_
    refine KW.ret1 rfl rfl ?_
    refine ⟨_, rfl, hs.keep, ?_⟩
    have hk' : k = xs.length := by omega
    subst hk'
    rw [List.take_length] at hne
    have : a ∉ xs := fun h => hne a h rfl
    simp [this]
end Go.Cw.Tryz
set_option linter.unusedVariables false
namespace Go.Cw.Tryz
open Go.Proofs Go.Cw
attribute [local irreducible] Go.Addr.add

theorem cmpL_nil_drop {α : Type} (c : α → α → Int) (x y : List α) (h : y.length < x.length ∨ x.length < y.length ∨ x.length = y.length) (hx : x = [] ∨ y = []) : cmpL c x y = if x.length < y.length then -1 else if y.length < x.length then 1 else 0 := by
  rcases hx with rfl | rfl
  · cases y <;> simp [cmpL]
  · cases x <;> simp [cmpL]

theorem bytes_spec (w0 : World) (a b : ByteArray) (ha : a.size ≤ 1073741824) (hb : b.size ≤ 1073741824) :
    T1 Tryz.prog 78 [.string a, .string b] w0 fun v w' => v = .int .i64 (cmpS a b) := by
  have hla := bl_length a
  have hlb := bl_length b
  refine KW.enterT1 (n := 42) Tryz.func78 rfl rfl rfl ?_
  have hs := St.init w0 noS
  refine KW.seq ?_
  refine CW.region (S := noS) [(0, .q)] rfl ?_
  refine EW.assign rfl rfl rfl rfl rfl rfl ?_
  refine EW.done ?_
  refine NW.seq ?_
  refine KW.seq ?_
  refine KW.seq ?_
  refine CW.region (S := noS) [(0, .q)] rfl ?_
  refine EW.assign rfl rfl rfl rfl rfl rfl ?_
  refine EW.done ?_
  refine NW.seq ?_
  refine KW.block ?_
  refine KW.loop (ι := Nat) (fun k => a.size - k) (fun k => [(0, .string a), (1, .string b), (5, .int .i64 (k : Int))]) (fun k w => k ≤ a.size ∧ k ≤ b.size ∧ cmpS a b = cmpL cmpB ((bl a).drop k) ((bl b).drop k) ∧ St w0 noS w []) 0 (by repeat (first | exact trivial | (refine ⟨by first | rfl | (congr 2; omega) | (simp; done) | (congr 1; simp; done), ?_⟩))) ?_ ?_
  · exact ⟨Nat.zero_le _, Nat.zero_le _, rfl, hs⟩
  clear hs
  rintro k w ⟨hka, hkb, hc, hs⟩
  have hend : (¬ (k < a.size ∧ k < b.size)) → cmpS a b = if a.size < b.size then -1 else if b.size < a.size then 1 else 0 := by
    intro hn
    rw [hc, cmpL_nil_drop cmpB _ _ (by omega) (by
      by_cases h : k < a.size
      · exact .inr (List.drop_eq_nil_of_le (by omega))
      · exact .inl (List.drop_eq_nil_of_le (by omega)))]
    simp only [List.length_drop, hla, hlb]
    by_cases h1 : a.size < b.size
    · rw [if_pos (by omega), if_pos h1]
    · rw [if_neg (by omega), if_neg h1]
      by_cases h2 : b.size < a.size
      · rw [if_pos (by omega), if_pos h2]
      · rw [if_neg (by omega), if_neg h2]
  refine KW.seq ?_
  refine KW.seq ?_
  refine CW.region (S := noS) [(0, .q), (1, .q), (2, .q), (3, .q), (4, .q), (5, .q), (6, .q), (7, .q), (8, .q), (9, .q)] rfl ?_
  refine EW.move rfl rfl rfl rfl rfl rfl ?_
  refine EW.move rfl rfl rfl rfl rfl rfl ?_
  refine EW.lenS rfl rfl rfl rfl rfl rfl ?_
  refine EW.bin rfl rfl rfl rfl rfl rfl rfl BV.lss ?_
  refine EW.move rfl rfl rfl rfl rfl rfl ?_
  refine EW.caseB (fun h1 => ?_) (fun h1 => ?_)
  · skip
    have h1' : k < a.size := by simpa using h1
    refine EW.move rfl rfl rfl rfl rfl rfl ?_
    refine EW.move rfl rfl rfl rfl rfl rfl ?_
    refine EW.lenS rfl rfl rfl rfl rfl rfl ?_
    refine EW.bin rfl rfl rfl rfl rfl rfl rfl BV.lss ?_
    refine EW.pick rfl rfl rfl rfl rfl rfl rfl ?_
    refine EW.done ?_
    refine NW.seq ?_
    refine KW.cond rfl (fun h2 => ?_) (fun h2 => ?_)
    · skip
      have h2' : k < b.size := by simpa using h2
      have ga : a.data.toList[(k : Int).toNat]? = some ((bl a)[k]'(by omega)) := by simp [bl]
      have gb : b.data.toList[(k : Int).toNat]? = some ((bl b)[k]'(by omega)) := by simp [bl]
      have hstep : cmpS a b = if cmpB ((bl a)[k]'(by omega)) ((bl b)[k]'(by omega)) = 0 then cmpL cmpB ((bl a).drop (k + 1)) ((bl b).drop (k + 1)) else cmpB ((bl a)[k]'(by omega)) ((bl b)[k]'(by omega)) := by
        rw [hc, List.drop_eq_getElem_cons (by omega), List.drop_eq_getElem_cons (i := k) (l := bl b) (by omega)]; rfl
      generalize (bl a)[k]'(by omega) = x at ga hstep
      generalize (bl b)[k]'(by omega) = y at gb hstep
      refine KW.skip ?_
      refine NW.seq ?_
      refine KW.seq ?_
      refine KW.block ?_
      refine KW.seq ?_
      refine KW.seq ?_
      refine CW.regionD (noS) [(0, .q), (1, .q), (2, .q), (3, .q), (4, .q), (5, .q), (6, .q)] mixed (by kernel_rfl) ?_
      replace hs := hs.drew
      refine EW.move rfl rfl rfl rfl rfl rfl ?_
      refine EW.move rfl rfl rfl rfl rfl rfl ?_
      refine EW.indexS rfl rfl rfl rfl rfl rfl rfl (by omega) (by assumption) ?_
      refine EW.move rfl rfl rfl rfl rfl rfl ?_
      refine EW.move rfl rfl rfl rfl rfl rfl ?_
      refine EW.indexS rfl rfl rfl rfl rfl rfl rfl (by omega) (by assumption) ?_
      refine EW.bin rfl rfl rfl rfl rfl rfl rfl BV.lss ?_
      refine EW.done ?_
      refine NW.seq ?_
      refine KW.cond rfl (fun h3 => ?_) (fun h3 => ?_)
      · skip
        refine KW.seq ?_
        refine CW.region (S := noS) [(0, .q)] rfl ?_
        refine EW.assign rfl rfl rfl rfl rfl rfl ?_
        refine EW.done ?_
        refine NW.seq ?_
        refine KW.ret1 rfl rfl ?_
        refine ⟨_, rfl, hs.keep, ?_⟩
        have h3' : x.toNat < y.toNat := by simpa using h3
        have : cmpB x y = -1 := by unfold cmpB; rw [if_pos h3']
        rw [hstep, this]; rfl
      · skip
        refine KW.skip ?_
        refine NW.seq ?_
        refine KW.seq ?_
        refine CW.regionD (noS) [(0, .q), (1, .q), (2, .q), (3, .q), (4, .q), (5, .q), (6, .q)] mixed (by kernel_rfl) ?_
        replace hs := hs.drew
        refine EW.move rfl rfl rfl rfl rfl rfl ?_
        refine EW.move rfl rfl rfl rfl rfl rfl ?_
        refine EW.indexS rfl rfl rfl rfl rfl rfl rfl (by omega) (by assumption) ?_
        refine EW.move rfl rfl rfl rfl rfl rfl ?_
        refine EW.move rfl rfl rfl rfl rfl rfl ?_
        refine EW.indexS rfl rfl rfl rfl rfl rfl rfl (by omega) (by assumption) ?_
        refine EW.bin rfl rfl rfl rfl rfl rfl rfl BV.gtr ?_
        refine EW.done ?_
        refine NW.seq ?_
        refine KW.cond rfl (fun h4 => ?_) (fun h4 => ?_)
        · skip
          refine KW.seq ?_
          refine CW.region (S := noS) [(0, .q)] rfl ?_
          refine EW.assign rfl rfl rfl rfl rfl rfl ?_
          refine EW.done ?_
          refine NW.seq ?_
          refine KW.ret1 rfl rfl ?_
          refine ⟨_, rfl, hs.keep, ?_⟩
          have h3' : ¬ x.toNat < y.toNat := by simpa using h3
          have h4' : y.toNat < x.toNat := by simpa using h4
          have : cmpB x y = 1 := by unfold cmpB; rw [if_neg h3', if_pos h4']
          rw [hstep, this]; rfl
        · skip
          refine KW.skip ?_
          refine NW.blk ?_
          refine NW.seq ?_
          refine CW.region (S := noS) [(0, .q), (1, .q), (2, .q)] rfl ?_
          refine EW.move rfl rfl rfl rfl rfl rfl ?_
          refine EW.bin rfl rfl rfl rfl rfl rfl rfl (BV.add (wrap_i64 (by omega) (by omega))) ?_
          refine EW.assign rfl rfl rfl rfl rfl rfl ?_
          refine EW.done ?_
          refine NW.again (k + 1) (by first | (dsimp only; omega) | omega | (simp; omega)) (by repeat (first | exact trivial | (refine ⟨by first | rfl | (congr 2; omega) | (simp; done) | (congr 1; simp; done), ?_⟩))) ?_
          try dsimp only
          have h3' : ¬ x.toNat < y.toNat := by simpa using h3
          have h4' : ¬ y.toNat < x.toNat := by simpa using h4
          have : cmpB x y = 0 := by unfold cmpB; rw [if_neg h3', if_neg h4']
          rw [this, if_pos rfl] at hstep
          exact ⟨h1', h2', hstep, hs⟩
    · skip
      have h2' : ¬ k < b.size := by simpa using h2
      have he := hend (by omega)
      refine KW.exit ?_
      refine XW.seq ?_
      refine XW.inv ?_
      refine XW.blk ?_
      refine NW.seq ?_
      refine KW.seq ?_
      refine KW.seq ?_
      refine CW.region (S := noS) [(0, .q), (1, .q), (2, .q), (3, .q), (4, .q)] rfl ?_
      refine EW.move rfl rfl rfl rfl rfl rfl ?_
      refine EW.lenS rfl rfl rfl rfl rfl rfl ?_
      refine EW.move rfl rfl rfl rfl rfl rfl ?_
      refine EW.lenS rfl rfl rfl rfl rfl rfl ?_
      refine EW.bin rfl rfl rfl rfl rfl rfl rfl BV.lss ?_
      refine EW.done ?_
      refine NW.seq ?_
      refine KW.cond rfl (fun h5 => ?_) (fun h5 => ?_)
      · skip
        have : a.size < b.size := by simpa using h5
        omega
      · skip
        have h5' : ¬ a.size < b.size := by simpa using h5
        refine KW.skip ?_
        refine NW.seq ?_
        refine KW.seq ?_
        refine KW.seq ?_
        refine CW.region (S := noS) [(0, .q), (1, .q), (2, .q), (3, .q), (4, .q)] rfl ?_
        refine EW.move rfl rfl rfl rfl rfl rfl ?_
        refine EW.lenS rfl rfl rfl rfl rfl rfl ?_
        refine EW.move rfl rfl rfl rfl rfl rfl ?_
        refine EW.lenS rfl rfl rfl rfl rfl rfl ?_
        refine EW.bin rfl rfl rfl rfl rfl rfl rfl BV.gtr ?_
        refine EW.done ?_
        refine NW.seq ?_
        refine KW.cond rfl (fun h6 => ?_) (fun h6 => ?_)
        · skip
          refine KW.seq ?_
          refine CW.region (S := noS) [(0, .q)] rfl ?_
          refine EW.assign rfl rfl rfl rfl rfl rfl ?_
          refine EW.done ?_
          refine NW.seq ?_
          refine KW.ret1 rfl rfl ?_
          refine ⟨_, rfl, hs.keep, ?_⟩
          have h6' : b.size < a.size := by simpa using h6
          rw [he, if_neg h5', if_pos h6']
        · skip
          have h6' : ¬ b.size < a.size := by simpa using h6
          omega
  · skip
    have h1' : ¬ k < a.size := by simpa using h1
    have he := hend (by omega)
    refine EW.off rfl rfl rfl rfl ?_
    refine EW.off rfl rfl rfl rfl ?_
    refine EW.off rfl rfl rfl rfl ?_
    refine EW.off rfl rfl rfl rfl ?_
    refine EW.pick rfl rfl rfl rfl rfl rfl rfl ?_
    refine EW.done ?_
    refine NW.seq ?_
    refine KW.cond rfl (fun h2 => ?_) (fun h2 => ?_)
    · skip
      cases h2
    · skip
      refine KW.exit ?_
      refine XW.seq ?_
      refine XW.inv ?_
      refine XW.blk ?_
      refine NW.seq ?_
      refine KW.seq ?_
      refine KW.seq ?_
      refine CW.region (S := noS) [(0, .q), (1, .q), (2, .q), (3, .q), (4, .q)] rfl ?_
      refine EW.move rfl rfl rfl rfl rfl rfl ?_
      refine EW.lenS rfl rfl rfl rfl rfl rfl ?_
      refine EW.move rfl rfl rfl rfl rfl rfl ?_
      refine EW.lenS rfl rfl rfl rfl rfl rfl ?_
      refine EW.bin rfl rfl rfl rfl rfl rfl rfl BV.lss ?_
      refine EW.done ?_
      refine NW.seq ?_
      refine KW.cond rfl (fun h5 => ?_) (fun h5 => ?_)
      · skip
        have h5' : a.size < b.size := by simpa using h5
        refine KW.seq ?_
        refine CW.region (S := noS) [(0, .q)] rfl ?_
        refine EW.assign rfl rfl rfl rfl rfl rfl ?_
        refine EW.done ?_
        refine NW.seq ?_
        refine KW.ret1 rfl rfl ?_
        refine ⟨_, rfl, hs.keep, ?_⟩
        rw [he, if_pos h5']
      · skip
        have h5' : ¬ a.size < b.size := by simpa using h5
        refine KW.skip ?_
        refine NW.seq ?_
        refine KW.seq ?_
        refine KW.seq ?_
        refine CW.region (S := noS) [(0, .q), (1, .q), (2, .q), (3, .q), (4, .q)] rfl ?_
        refine EW.move rfl rfl rfl rfl rfl rfl ?_
        refine EW.lenS rfl rfl rfl rfl rfl rfl ?_
        refine EW.move rfl rfl rfl rfl rfl rfl ?_
        refine EW.lenS rfl rfl rfl rfl rfl rfl ?_
        refine EW.bin rfl rfl rfl rfl rfl rfl rfl BV.gtr ?_
        refine EW.done ?_
        refine NW.seq ?_
        refine KW.cond rfl (fun h6 => ?_) (fun h6 => ?_)
        · skip
          have h6' : b.size < a.size := by simpa using h6
          omega
        · skip
          have h6' : ¬ b.size < a.size := by simpa using h6
          refine KW.skip ?_
          refine NW.seq ?_
          refine KW.seq ?_
          refine CW.region (S := noS) [(0, .q)] rfl ?_
          refine EW.assign rfl rfl rfl rfl rfl rfl ?_
          refine EW.done ?_
          refine NW.seq ?_
          refine KW.ret1 rfl rfl ?_
          refine ⟨_, rfl, hs.keep, ?_⟩
          rw [he, if_neg h5', if_neg h6']
end Go.Cw.Tryz
set_option linter.unusedVariables false
namespace Go.Cw.Tryz
open Go.Proofs Go.Cw
attribute [local irreducible] Go.Addr.add

def elS : El Tryz.prog ByteArray := {
  ty := 9
  size := 1
  bytes := 16
  enc := fun s => .string s
  zero := .string ByteArray.empty
  info := by kernel_rfl
  zsize := rfl
  pos := by decide
  posb := by decide
  cells := fun _ => rfl
  one := fun x u hu => by
    obtain rfl : u = .string x := by simpa [Value.cells] using hu
    rfl
  ld := fun w p x h => LD.one (by simpa [Addr.add] using h 0 (.string x) rfl) }

theorem splitL_plain : ∀ s : List UInt8, (∀ c ∈ s, c ≠ 47) → splitL s = [s]
  | [], _ => rfl
  | c :: r, h => by
    have hc : c ≠ 47 := h c (by simp)
    simp only [splitL, if_neg hc, splitL_plain r fun x hx => h x (by simp [hx])]
theorem splitL_seg : ∀ (s t : List UInt8), (∀ c ∈ s, c ≠ 47) → splitL (s ++ 47 :: t) = s :: splitL t
  | [], t, _ => by simp [splitL]
  | c :: r, t, h => by
    have hc : c ≠ 47 := h c (by simp)
    simp only [List.cons_append, splitL, if_neg hc, splitL_seg r t fun x hx => h x (by simp [hx])]
theorem bl_extract (s : ByteArray) (a b : Nat) : bl (s.extract a b) = ((bl s).drop a).take (b - a) := by
  simp [bl, ByteArray.data_extract, Array.toList_extract, List.extract_eq_take_drop]

/-- What Split answers. -/
def SplitPost (w0 : World) (p : ByteArray) (v : Value) (w' : World) : Prop := ∃ ps : List ByteArray, ps.map bl = pieces p ∧ Fresh elS w0 w' v ps

theorem refSplit_spec (w0 : World) (p : ByteArray) (hp : p.size ≤ 1048576) :
    T1 Tryz.prog 77 [.string p] w0 (SplitPost w0 p) := by
  have hl := bl_length p
  refine KW.enterT1 (n := 35) Tryz.func77 rfl rfl rfl ?_
  have hs := St.init w0 noS
  refine KW.seq ?_
  refine CW.region (S := noS) [(0, .q)] rfl ?_
  refine EW.assign rfl rfl rfl rfl rfl rfl ?_
  refine EW.done ?_
  refine NW.seq ?_
  refine KW.seq ?_
  refine CW.region (S := noS) [(0, .q)] rfl ?_
  refine EW.assign rfl rfl rfl rfl rfl rfl ?_
  refine EW.done ?_
  refine NW.seq ?_
  refine KW.seq ?_
  refine KW.seq ?_
  refine CW.region (S := noS) [(0, .q), (1, .q)] rfl ?_
  refine EW.move rfl rfl rfl rfl rfl rfl ?_
  refine EW.bin rfl rfl rfl rfl rfl rfl rfl BV.eqs ?_
  refine EW.done ?_
  refine NW.seq ?_
  refine KW.cond rfl (fun h0 => ?_) (fun h0 => ?_)
  · skip
    refine KW.seq ?_
    refine CW.region (S := noS) [(0, .q), (1, .q)] rfl ?_
    refine EW.move rfl rfl rfl rfl rfl rfl ?_
    refine EW.assign rfl rfl rfl rfl rfl rfl ?_
    refine EW.done ?_
    refine NW.seq ?_
    refine KW.ret1 rfl rfl ?_
    refine ⟨_, rfl, hs.keep, ?_⟩
    have : p = ⟨#[]⟩ := by simpa using h0
    subst this
    exact ⟨[], by simp [pieces, bl], Fresh.nil elS _ _⟩
  · skip
    have hne : bl p ≠ [] := fun h => by
      have : p = ⟨#[]⟩ := bl_inj (by rw [h]; rfl)
      simp [this] at h0
    have hpos : 0 < p.size := by
      rw [← hl]; exact List.length_pos_iff.2 hne
    refine KW.skip ?_
    refine NW.seq ?_
    refine KW.seq ?_
    refine CW.region (S := noS) [(0, .q)] rfl ?_
    refine EW.assign rfl rfl rfl rfl rfl rfl ?_
    refine EW.done ?_
    refine NW.seq ?_
    refine KW.seq ?_
    refine KW.seq ?_
    refine CW.region (S := noS) [(0, .q)] rfl ?_
    refine EW.assign rfl rfl rfl rfl rfl rfl ?_
    refine EW.done ?_
    refine NW.seq ?_
    refine KW.block ?_
    replace hs := hs.nil elS
    refine KW.loop (ι := Nat × Nat × Value × List ByteArray) (fun i => p.size + 1 - i.1) (fun i => [(0, .string p), (3, i.2.2.1), (4, .int .i64 (i.2.1 : Int)), (5, .int .i64 (i.1 : Int))]) (fun i w => i.2.1 ≤ i.1 ∧ i.1 ≤ p.size + 1 ∧ i.2.2.2.length ≤ i.1 ∧ (∀ c ∈ ((bl p).drop i.2.1).take (i.1 - i.2.1), c ≠ 47) ∧ (if i.1 = p.size + 1 then splitL (bl p) = i.2.2.2.map bl else splitL (bl p) = i.2.2.2.map bl ++ splitL ((bl p).drop i.2.1)) ∧ St w0 noS w [own elS i.2.2.1 i.2.2.2]) (0, 0, .slice none 0 0, []) (by repeat (first | exact trivial | (refine ⟨by first | rfl | (congr 2; omega) | (simp; done) | (congr 1; simp; done), ?_⟩))) ?_ ?_
    · exact ⟨Nat.le_refl _, Nat.zero_le _, Nat.le_refl _, by simp, by simp, hs⟩
    clear hs
    rintro ⟨k, f, v, ps⟩ w ⟨hfk, hk, hps, hno, hsp, hs⟩
    dsimp only at hfk hk hps hno hsp hs
    refine KW.seq ?_
    refine KW.seq ?_
    refine CW.region (S := noS) [(0, .q), (1, .q), (2, .q), (3, .q)] rfl ?_
    refine EW.move rfl rfl rfl rfl rfl rfl ?_
    refine EW.move rfl rfl rfl rfl rfl rfl ?_
    refine EW.lenS rfl rfl rfl rfl rfl rfl ?_
    refine EW.bin rfl rfl rfl rfl rfl rfl rfl BV.leq ?_
    refine EW.done ?_
    refine NW.seq ?_
    refine KW.cond rfl (fun h1 => ?_) (fun h1 => ?_)
    · skip
      have h1' : k ≤ p.size := by
        have : (k : Int) ≤ (p.size : Int) := by simpa using h1
        omega
      rw [if_neg (by omega)] at hsp
      have hext : bl (p.extract f k) = ((bl p).drop f).take (k - f) := bl_extract p f k
      refine KW.skip ?_
      refine NW.seq ?_
      refine KW.seq ?_
      refine KW.block ?_
      refine KW.seq ?_
      refine CW.region (S := noS) [(0, .q), (1, .q), (2, .q), (3, .q), (4, .q), (5, .q), (6, .q), (7, .q), (8, .q), (9, .q)] rfl ?_
      refine EW.move rfl rfl rfl rfl rfl rfl ?_
      refine EW.move rfl rfl rfl rfl rfl rfl ?_
      refine EW.lenS rfl rfl rfl rfl rfl rfl ?_
      refine EW.bin rfl rfl rfl rfl rfl rfl rfl BV.eqi ?_
      refine EW.move rfl rfl rfl rfl rfl rfl ?_
      refine EW.caseB (fun h2 => ?_) (fun h2 => ?_)
      · skip
        have h2' : k = p.size := by
          have : (k : Int) = (p.size : Int) := by simpa using h2
          omega
        refine EW.off rfl rfl rfl rfl ?_
        refine EW.off rfl rfl rfl rfl ?_
        refine EW.off rfl rfl rfl rfl ?_
        refine EW.off rfl rfl rfl rfl ?_
        refine EW.pick rfl rfl rfl rfl rfl rfl rfl ?_
        refine EW.done ?_
        refine NW.seq ?_
        refine CW.cond_t rfl (rfl) ?_
        refine KW.seq ?_
        refine CW.region (S := noS) [(0, .q), (1, .q), (2, .q), (3, .q), (4, .q), (5, .l), (6, .l), (7, .q)] rfl ?_
        refine EW.move rfl rfl rfl rfl rfl rfl ?_
        refine EW.move rfl rfl rfl rfl rfl rfl ?_
        refine EW.move rfl rfl rfl rfl rfl rfl ?_
        refine EW.move rfl rfl rfl rfl rfl rfl ?_
        refine EW.sliceStr rfl rfl rfl rfl rfl rfl rfl rfl (by omega) (by omega) ?_
        refine EW.lit1 elS (_) hs rfl rfl rfl rfl rfl rfl rfl ?_
        clear hs; intro b30 w hs
        first | refine EW.append1 elS 1 0 hs rfl rfl (by show _ * 16 ≤ 140737488355328; omega) (.inl rfl) rfl rfl rfl rfl rfl rfl rfl ?_ | refine EW.append1 elS 2 0 hs rfl rfl (by show _ * 16 ≤ 140737488355328; omega) (.inl rfl) rfl rfl rfl rfl rfl rfl rfl ?_ | refine EW.append1 elS 3 0 hs rfl rfl (by show _ * 16 ≤ 140737488355328; omega) (.inl rfl) rfl rfl rfl rfl rfl rfl rfl ?_ | refine EW.append1 elS 4 0 hs rfl rfl (by show _ * 16 ≤ 140737488355328; omega) (.inl rfl) rfl rfl rfl rfl rfl rfl rfl ?_ | refine EW.append1 elS 5 0 hs rfl rfl (by show _ * 16 ≤ 140737488355328; omega) (.inl rfl) rfl rfl rfl rfl rfl rfl rfl ?_ | refine EW.append1 elS 6 0 hs rfl rfl (by show _ * 16 ≤ 140737488355328; omega) (.inl rfl) rfl rfl rfl rfl rfl rfl rfl ?_ | refine EW.append1 elS 7 0 hs rfl rfl (by show _ * 16 ≤ 140737488355328; omega) (.inl rfl) rfl rfl rfl rfl rfl rfl rfl ?_
        clear hs; intro v31 w hs; dsimp only [List.set] at hs; replace hs := hs.tail
        refine EW.assign rfl rfl rfl rfl rfl rfl ?_
        refine EW.done ?_
        refine NW.seq ?_
        refine CW.region (S := noS) [(0, .q), (1, .q), (2, .q)] rfl ?_
        refine EW.move rfl rfl rfl rfl rfl rfl ?_
        refine EW.bin rfl rfl rfl rfl rfl rfl rfl (BV.add (wrap_i64 (by omega) (by omega))) ?_
        refine EW.assign rfl rfl rfl rfl rfl rfl ?_
        refine EW.done ?_
        refine NW.blk ?_
        refine NW.seq ?_
        refine CW.region (S := noS) [(0, .q), (1, .q), (2, .q)] rfl ?_
        refine EW.move rfl rfl rfl rfl rfl rfl ?_
        refine EW.bin rfl rfl rfl rfl rfl rfl rfl (BV.add (wrap_i64 (by omega) (by omega))) ?_
        refine EW.assign rfl rfl rfl rfl rfl rfl ?_
        refine EW.done ?_
        refine NW.again ((k + 1, k + 1, v31, ps ++ [p.extract f k])) (by first | (dsimp only; omega) | omega | (simp; omega)) (by repeat (first | exact trivial | (refine ⟨by first | rfl | (congr 2; omega) | (simp; done) | (congr 1; simp; done), ?_⟩))) ?_
        try dsimp only
        refine ⟨Nat.le_refl _, by omega, by simp; omega, by simp, ?_, hs⟩
        rw [if_pos (by omega), hsp]
        have e : (bl p).drop f = ((bl p).drop f).take (k - f) := by
          rw [List.take_of_length_le (by simp; omega)]
        rw [e, splitL_plain _ hno]
        simp [hext]
      · skip
        have h2' : k < p.size := by
          have : ¬ (k : Int) = (p.size : Int) := by simpa using h2
          omega
        have ga : p.data.toList[(k : Int).toNat]? = some ((bl p)[k]'(by omega)) := by simp [bl]
        have hdf : (bl p).drop f = ((bl p).drop f).take (k - f) ++ (bl p)[k]'(by omega) :: (bl p).drop (k + 1) := by
          have h3 : ((bl p).drop f).drop (k - f) = (bl p).drop k := by rw [List.drop_drop]; congr 1; omega
          have h4 : (bl p).drop k = (bl p)[k]'(by omega) :: (bl p).drop (k + 1) := List.drop_eq_getElem_cons (by omega)
          rw [← h4, ← h3, List.take_append_drop]
        have htk : ((bl p).drop f).take (k + 1 - f) = ((bl p).drop f).take (k - f) ++ [(bl p)[k]'(by omega)] := by
          rw [show k + 1 - f = (k - f) + 1 from by omega, List.take_succ_eq_append_getElem (by simp; omega)]
          congr 2
          simp only [List.getElem_drop]
          congr 1
          omega
        generalize (bl p)[k]'(by omega) = x at ga hdf htk
        refine EW.move rfl rfl rfl rfl rfl rfl ?_
        refine EW.move rfl rfl rfl rfl rfl rfl ?_
        refine EW.indexS rfl rfl rfl rfl rfl rfl rfl (by omega) (by assumption) ?_
        refine EW.bin rfl rfl rfl rfl rfl rfl rfl BV.eqi ?_
        refine EW.pick rfl rfl rfl rfl rfl rfl rfl ?_
        refine EW.done ?_
        refine NW.seq ?_
        refine KW.cond rfl (fun h3 => ?_) (fun h3 => ?_)
        · skip
          have h3' : x = 47 := by
            have : (x.toNat : Int) = 47 := by simpa using h3
            exact UInt8.toNat_inj.1 (by show x.toNat = 47; omega)
          refine KW.seq ?_
          refine CW.region (S := noS) [(0, .q), (1, .q), (2, .q), (3, .q), (4, .q), (5, .l), (6, .l), (7, .q)] rfl ?_
          refine EW.move rfl rfl rfl rfl rfl rfl ?_
          refine EW.move rfl rfl rfl rfl rfl rfl ?_
          refine EW.move rfl rfl rfl rfl rfl rfl ?_
          refine EW.move rfl rfl rfl rfl rfl rfl ?_
          refine EW.sliceStr rfl rfl rfl rfl rfl rfl rfl rfl (by omega) (by omega) ?_
          refine EW.lit1 elS (_) hs rfl rfl rfl rfl rfl rfl rfl ?_
          clear hs; intro b30 w hs
          first | refine EW.append1 elS 1 0 hs rfl rfl (by show _ * 16 ≤ 140737488355328; omega) (.inl rfl) rfl rfl rfl rfl rfl rfl rfl ?_ | refine EW.append1 elS 2 0 hs rfl rfl (by show _ * 16 ≤ 140737488355328; omega) (.inl rfl) rfl rfl rfl rfl rfl rfl rfl ?_ | refine EW.append1 elS 3 0 hs rfl rfl (by show _ * 16 ≤ 140737488355328; omega) (.inl rfl) rfl rfl rfl rfl rfl rfl rfl ?_ | refine EW.append1 elS 4 0 hs rfl rfl (by show _ * 16 ≤ 140737488355328; omega) (.inl rfl) rfl rfl rfl rfl rfl rfl rfl ?_ | refine EW.append1 elS 5 0 hs rfl rfl (by show _ * 16 ≤ 140737488355328; omega) (.inl rfl) rfl rfl rfl rfl rfl rfl rfl ?_ | refine EW.append1 elS 6 0 hs rfl rfl (by show _ * 16 ≤ 140737488355328; omega) (.inl rfl) rfl rfl rfl rfl rfl rfl rfl ?_ | refine EW.append1 elS 7 0 hs rfl rfl (by show _ * 16 ≤ 140737488355328; omega) (.inl rfl) rfl rfl rfl rfl rfl rfl rfl ?_
          clear hs; intro v31 w hs; dsimp only [List.set] at hs; replace hs := hs.tail
          refine EW.assign rfl rfl rfl rfl rfl rfl ?_
          refine EW.done ?_
          refine NW.seq ?_
          refine CW.region (S := noS) [(0, .q), (1, .q), (2, .q)] rfl ?_
          refine EW.move rfl rfl rfl rfl rfl rfl ?_
          refine EW.bin rfl rfl rfl rfl rfl rfl rfl (BV.add (wrap_i64 (by omega) (by omega))) ?_
          refine EW.assign rfl rfl rfl rfl rfl rfl ?_
          refine EW.done ?_
          refine NW.blk ?_
          refine NW.seq ?_
          refine CW.region (S := noS) [(0, .q), (1, .q), (2, .q)] rfl ?_
          refine EW.move rfl rfl rfl rfl rfl rfl ?_
          refine EW.bin rfl rfl rfl rfl rfl rfl rfl (BV.add (wrap_i64 (by omega) (by omega))) ?_
          refine EW.assign rfl rfl rfl rfl rfl rfl ?_
          refine EW.done ?_
          refine NW.again ((k + 1, k + 1, v31, ps ++ [p.extract f k])) (by first | (dsimp only; omega) | omega | (simp; omega)) (by repeat (first | exact trivial | (refine ⟨by first | rfl | (congr 2; omega) | (simp; done) | (congr 1; simp; done), ?_⟩))) ?_
          try dsimp only
          refine ⟨Nat.le_refl _, by omega, by simp; omega, by simp, ?_, hs⟩
          subst h3'
          rw [if_neg (by omega), hsp, hdf, splitL_seg _ _ hno]
          simp [hext]
        · skip
          have h3' : x ≠ 47 := fun e => by subst e; simp at h3
          refine KW.skip ?_
          refine NW.blk ?_
          refine NW.seq ?_
          refine CW.region (S := noS) [(0, .q), (1, .q), (2, .q)] rfl ?_
          refine EW.move rfl rfl rfl rfl rfl rfl ?_
          refine EW.bin rfl rfl rfl rfl rfl rfl rfl (BV.add (wrap_i64 (by omega) (by omega))) ?_
          refine EW.assign rfl rfl rfl rfl rfl rfl ?_
          refine EW.done ?_
          refine NW.again ((k + 1, f, v, ps)) (by first | (dsimp only; omega) | omega | (simp; omega)) (by repeat (first | exact trivial | (refine ⟨by first | rfl | (congr 2; omega) | (simp; done) | (congr 1; simp; done), ?_⟩))) ?_
          try dsimp only
          refine ⟨by omega, by omega, by omega, ?_, ?_, hs⟩
          · intro c hc
            rw [htk, List.mem_append] at hc
            rcases hc with h | h
            · exact hno c h
            · simp at h; subst h; exact h3'
          · rw [if_neg (by omega)]; exact hsp
    · skip
      have h1' : k = p.size + 1 := by
        have : ¬ (k : Int) ≤ (p.size : Int) := by simpa using h1
        omega
      rw [if_pos h1'] at hsp
      refine KW.exit ?_
      refine XW.seq ?_
      refine XW.inv ?_
      refine XW.blk ?_
      refine NW.seq ?_
      refine KW.seq ?_
      refine CW.region (S := noS) [(0, .q), (1, .q)] rfl ?_
      refine EW.move rfl rfl rfl rfl rfl rfl ?_
      refine EW.assign rfl rfl rfl rfl rfl rfl ?_
      refine EW.done ?_
      refine NW.seq ?_
      refine KW.ret1 rfl rfl ?_
      refine ⟨_, rfl, hs.keep, ?_⟩
      refine ⟨ps, ?_, hs.to_fresh 0 rfl⟩
      rw [← hsp, pieces, if_neg hne]
end Go.Cw.Tryz
set_option linter.unusedVariables false
namespace Go.Cw.Tryz
open Go.Proofs Go.Cw
attribute [local irreducible] Go.Addr.add

theorem splitL_len : ∀ l : List UInt8, (splitL l).length ≤ l.length + 1
  | [] => by simp [splitL]
  | c :: r => by
    have ih := splitL_len r
    simp only [splitL]
    split
    · simp; omega
    · split <;> rename_i h <;> simp [h] at ih ⊢ <;> omega
theorem splitL_mem : ∀ (l : List UInt8) (q : List UInt8), q ∈ splitL l → q.length ≤ l.length
  | [], q, h => by simp [splitL] at h; subst h; simp
  | c :: r, q, h => by
    have ih := splitL_mem r
    simp only [splitL] at h
    split at h
    · rcases List.mem_cons.1 h with rfl | h
      · simp
      · have := ih q h; simp; omega
    · split at h
      · rename_i hs; simp at h; subst h; simp
      · rename_i p ps hs
        rcases List.mem_cons.1 h with rfl | h
        · have := ih p (by rw [hs]; simp); simp; omega
        · have := ih q (by rw [hs]; simp [h]); simp; omega
theorem pieces_len (s : ByteArray) : (pieces s).length ≤ s.size + 1 := by
  unfold pieces
  split
  · simp
  · have := splitL_len (bl s); rw [bl_length] at this; exact this
theorem pieces_mem (s : ByteArray) (q : List UInt8) (h : q ∈ pieces s) : q.length ≤ s.size := by
  unfold pieces at h
  split at h
  · simp at h
  · have := splitL_mem (bl s) q h; rw [bl_length] at this; exact this
theorem ps_len {s : ByteArray} {ps : List ByteArray} (h : ps.map bl = pieces s) : ps.length ≤ s.size + 1 := by
  have := pieces_len s
  rw [← h] at this; simpa using this
theorem ps_mem {s : ByteArray} {ps : List ByteArray} (h : ps.map bl = pieces s) {q : ByteArray} (hq : q ∈ ps) : q.size ≤ s.size := by
  have := pieces_mem s (bl q) (by rw [← h]; exact List.mem_map_of_mem hq)
  rwa [bl_length] at this

theorem refPathCmp_spec (w0 : World) (a b : ByteArray) (ha : a.size ≤ 1048576) (hb : b.size ≤ 1048576) :
    T1 Tryz.prog 52 [.string a, .string b] w0 fun v w' => v = .int .i64 (cmpP a b) := by
  refine KW.enterT1 (n := 47) Tryz.func52 rfl rfl rfl ?_
  have hs := St.init w0 noS
  refine KW.seq ?_
  refine CW.region (S := noS) [(0, .q)] rfl ?_
  refine EW.assign rfl rfl rfl rfl rfl rfl ?_
  refine EW.done ?_
  refine NW.seq ?_
  refine KW.seq ?_
  refine CW.region (S := noS) [(0, .q), (1, .l), (2, .q)] rfl ?_
  refine EW.move rfl rfl rfl rfl rfl rfl ?_
  refine EW.callT1 (refSplit_spec _ _ (by assumption)) rfl rfl rfl rfl rfl Tryz.func77 bd77 nm77 rfl ?_
  intro v10 w hk10 hp10
  obtain ⟨ps10, hps10, hf10⟩ := hp10
  obtain ⟨A10, c10, rfl, _, hc10, _⟩ := hf10.sl
  replace hs := hs.fresh hk10 hf10
  refine EW.assign rfl rfl rfl rfl rfl rfl ?_
  refine EW.done ?_
  refine NW.seq ?_
  refine KW.seq ?_
  refine CW.region (S := noS) [(0, .q), (1, .l), (2, .q)] rfl ?_
  refine EW.move rfl rfl rfl rfl rfl rfl ?_
  refine EW.callT1 (refSplit_spec _ _ (by assumption)) rfl rfl rfl rfl rfl Tryz.func77 bd77 nm77 rfl ?_
  intro v12 w hk12 hp12
  obtain ⟨ps12, hps12, hf12⟩ := hp12
  obtain ⟨A12, c12, rfl, _, hc12, _⟩ := hf12.sl
  replace hs := hs.fresh hk12 hf12
  refine EW.assign rfl rfl rfl rfl rfl rfl ?_
  refine EW.done ?_
  refine NW.seq ?_
  refine KW.seq ?_
  refine KW.seq ?_
  refine CW.region (S := noS) [(0, .q)] rfl ?_
  refine EW.assign rfl rfl rfl rfl rfl rfl ?_
  refine EW.done ?_
  refine NW.seq ?_
  refine KW.block ?_
  have l1 := ps_len hps10
  have l2 := ps_len hps12
  have hz : LawCmp (cmpL cmpB) := lawB.list
  refine KW.loop (ι := Nat) (fun k => ps10.length - k) (fun k => [(5, .slice A10 ps10.length c10), (6, .slice A12 ps12.length c12), (7, .int .i64 (k : Int))]) (fun k w => k ≤ ps10.length ∧ k ≤ ps12.length ∧ cmpP a b = cmpL (cmpL cmpB) ((ps10.map bl).drop k) ((ps12.map bl).drop k) ∧ St w0 noS w [own elS (.slice A12 ps12.length c12) ps12, own elS (.slice A10 ps10.length c10) ps10]) 0 (by repeat (first | exact trivial | (refine ⟨by first | rfl | (congr 2; omega) | (simp; done) | (congr 1; simp; done), ?_⟩))) ?_ ?_
  · exact ⟨Nat.zero_le _, Nat.zero_le _, by rw [hps10, hps12]; rfl, hs⟩
  clear hs
  rintro k w ⟨hka, hkb, hc, hs⟩
  have hend : (¬ (k < ps10.length ∧ k < ps12.length)) → cmpP a b = if ps10.length < ps12.length then -1 else if ps12.length < ps10.length then 1 else 0 := by
    intro hn
    rw [hc, cmpL_nil_drop (cmpL cmpB) _ _ (by omega) (by
      by_cases h : k < ps10.length
      · exact .inr (List.drop_eq_nil_of_le (by simp; omega))
      · exact .inl (List.drop_eq_nil_of_le (by simp; omega)))]
    simp only [List.length_drop, List.length_map]
    by_cases h1 : ps10.length < ps12.length
    · rw [if_pos (by omega), if_pos h1]
    · rw [if_neg (by omega), if_neg h1]
      by_cases h2 : ps12.length < ps10.length
      · rw [if_pos (by omega), if_pos h2]
      · rw [if_neg (by omega), if_neg h2]
  refine KW.seq ?_
  refine KW.seq ?_
  refine CW.region (S := noS) [(0, .q), (1, .q), (2, .q), (3, .q), (4, .q), (5, .q), (6, .q), (7, .q), (8, .q), (9, .q)] rfl ?_
  refine EW.move rfl rfl rfl rfl rfl rfl ?_
  refine EW.move rfl rfl rfl rfl rfl rfl ?_
  refine EW.len rfl rfl rfl rfl rfl rfl ?_
  refine EW.bin rfl rfl rfl rfl rfl rfl rfl BV.lss ?_
  refine EW.move rfl rfl rfl rfl rfl rfl ?_
  refine EW.caseB (fun h1 => ?_) (fun h1 => ?_)
  · skip
    have h1' : k < ps10.length := by simpa using h1
    refine EW.move rfl rfl rfl rfl rfl rfl ?_
    refine EW.move rfl rfl rfl rfl rfl rfl ?_
    refine EW.len rfl rfl rfl rfl rfl rfl ?_
    refine EW.bin rfl rfl rfl rfl rfl rfl rfl BV.lss ?_
    refine EW.pick rfl rfl rfl rfl rfl rfl rfl ?_
    refine EW.done ?_
    refine NW.seq ?_
    refine KW.cond rfl (fun h2 => ?_) (fun h2 => ?_)
    · skip
      have h2' : k < ps12.length := by simpa using h2
      obtain ⟨a1, rfl, _, hld1⟩ := (hs.sl 1 rfl).at_ h1'
      obtain ⟨a2, rfl, _, hld2⟩ := (hs.sl 0 rfl).at_ h2'
      have g1 : LDP Tryz.prog w 9 (a1.add ((k : Int).toNat * 1)) (.string ps10[k]) := hld1 k ps10[k] (by simp)
      have g2 : LDP Tryz.prog w 9 (a2.add ((k : Int).toNat * 1)) (.string ps12[k]) := hld2 k ps12[k] (by simp)
      have s1 := ps_mem hps10 (List.getElem_mem h1')
      have s2 := ps_mem hps12 (List.getElem_mem h2')
      have hstep : cmpP a b = if cmpS ps10[k] ps12[k] = 0 then cmpL (cmpL cmpB) ((ps10.map bl).drop (k + 1)) ((ps12.map bl).drop (k + 1)) else cmpS ps10[k] ps12[k] := by
        rw [hc, List.drop_eq_getElem_cons (by simpa using h1'), List.drop_eq_getElem_cons (i := k) (l := ps12.map bl) (by simpa using h2')]
        simp only [cmpL, List.getElem_map]; rfl
      replace g1 := g1.keep (Keep.drew (S := noS) w) (fun h => h)
      replace g2 := g2.keep (Keep.drew (S := noS) w) (fun h => h)
      refine KW.skip ?_
      refine NW.seq ?_
      refine KW.seq ?_
      refine KW.block ?_
      refine KW.seq ?_
      refine CW.regionD (noS) [(0, .q), (1, .q), (2, .q), (3, .q), (4, .q), (5, .q), (6, .q), (7, .q), (8, .l), (9, .q)] mixed (by kernel_rfl) ?_
      replace hs := hs.drew
      refine EW.move rfl rfl rfl rfl rfl rfl ?_
      refine EW.move rfl rfl rfl rfl rfl rfl ?_
      refine EW.indexAddr rfl rfl rfl rfl rfl rfl rfl (by omega) (by omega) ?_
      refine EW.loadP rfl rfl rfl rfl rfl rfl (by first | assumption | (apply LDP.drew; assumption) | exact St.ld1 hs 0 rfl rfl | exact St.ldA hs 0 rfl rfl rfl | exact St.ld1 hs 1 rfl rfl | exact St.ldA hs 1 rfl rfl rfl | exact St.ld1 hs 2 rfl rfl | exact St.ldA hs 2 rfl rfl rfl | exact St.ld1 hs 3 rfl rfl | exact St.ldA hs 3 rfl rfl rfl | exact St.ld1 hs 4 rfl rfl | exact St.ldA hs 4 rfl rfl rfl | exact St.ld1 hs 5 rfl rfl | exact St.ldA hs 5 rfl rfl rfl | exact St.ld1 hs 6 rfl rfl | exact St.ldA hs 6 rfl rfl rfl) (by first | exact .inl rfl | exact .inr (fun h => h)) ?_
      refine EW.move rfl rfl rfl rfl rfl rfl ?_
      refine EW.move rfl rfl rfl rfl rfl rfl ?_
      refine EW.indexAddr rfl rfl rfl rfl rfl rfl rfl (by omega) (by omega) ?_
      refine EW.loadP rfl rfl rfl rfl rfl rfl (by first | assumption | (apply LDP.drew; assumption) | exact St.ld1 hs 0 rfl rfl | exact St.ldA hs 0 rfl rfl rfl | exact St.ld1 hs 1 rfl rfl | exact St.ldA hs 1 rfl rfl rfl | exact St.ld1 hs 2 rfl rfl | exact St.ldA hs 2 rfl rfl rfl | exact St.ld1 hs 3 rfl rfl | exact St.ldA hs 3 rfl rfl rfl | exact St.ld1 hs 4 rfl rfl | exact St.ldA hs 4 rfl rfl rfl | exact St.ld1 hs 5 rfl rfl | exact St.ldA hs 5 rfl rfl rfl | exact St.ld1 hs 6 rfl rfl | exact St.ldA hs 6 rfl rfl rfl) (by first | exact .inl rfl | exact .inr (fun h => h)) ?_
      refine EW.callT1 (bytes_spec _ _ _ (by omega) (by omega)) rfl rfl rfl rfl rfl Tryz.func78 bd78 nm78 rfl ?_
      intro v33 w hk33 hp33
      subst hp33
      replace hs := hs.stay hk33
      refine EW.assign rfl rfl rfl rfl rfl rfl ?_
      refine EW.done ?_
      refine NW.seq ?_
      refine KW.seq ?_
      refine CW.region (S := noS) [(0, .q), (1, .q)] rfl ?_
      refine EW.move rfl rfl rfl rfl rfl rfl ?_
      refine EW.bin rfl rfl rfl rfl rfl rfl rfl BV.nei ?_
      refine EW.done ?_
      refine NW.seq ?_
      refine KW.cond rfl (fun h3 => ?_) (fun h3 => ?_)
      · skip
        refine KW.seq ?_
        refine CW.region (S := noS) [(0, .q), (1, .q)] rfl ?_
        refine EW.move rfl rfl rfl rfl rfl rfl ?_
        refine EW.assign rfl rfl rfl rfl rfl rfl ?_
        refine EW.done ?_
        refine NW.seq ?_
        refine KW.ret1 rfl rfl ?_
        refine ⟨_, rfl, hs.keep, ?_⟩
        have h3' : cmpS ps10[k] ps12[k] ≠ 0 := by simpa using h3
        rw [hstep, if_neg h3']
      · skip
        refine KW.skip ?_
        refine NW.blk ?_
        refine NW.seq ?_
        refine CW.region (S := noS) [(0, .q), (1, .q), (2, .q)] rfl ?_
        refine EW.move rfl rfl rfl rfl rfl rfl ?_
        refine EW.bin rfl rfl rfl rfl rfl rfl rfl (BV.add (wrap_i64 (by omega) (by omega))) ?_
        refine EW.assign rfl rfl rfl rfl rfl rfl ?_
        refine EW.done ?_
        refine NW.again (k + 1) (by first | (dsimp only; omega) | omega | (simp; omega)) (by repeat (first | exact trivial | (refine ⟨by first | rfl | (congr 2; omega) | (simp; done) | (congr 1; simp; done), ?_⟩))) ?_
        try dsimp only
        have h3' : cmpS ps10[k] ps12[k] = 0 := by simpa using h3
        rw [if_pos h3'] at hstep
        exact ⟨h1', h2', hstep, hs⟩
    · skip
      have h2' : ¬ k < ps12.length := by simpa using h2
      have he := hend (by omega)
      refine KW.exit ?_
      refine XW.seq ?_
      refine XW.inv ?_
      refine XW.blk ?_
      refine NW.seq ?_
      refine KW.seq ?_
      refine KW.seq ?_
      refine CW.region (S := noS) [(0, .q), (1, .q), (2, .q), (3, .q), (4, .q)] rfl ?_
      refine EW.move rfl rfl rfl rfl rfl rfl ?_
      refine EW.len rfl rfl rfl rfl rfl rfl ?_
      refine EW.move rfl rfl rfl rfl rfl rfl ?_
      refine EW.len rfl rfl rfl rfl rfl rfl ?_
      refine EW.bin rfl rfl rfl rfl rfl rfl rfl BV.lss ?_
      refine EW.done ?_
      refine NW.seq ?_
      refine KW.cond rfl (fun h5 => ?_) (fun h5 => ?_)
      · skip
        have : ps10.length < ps12.length := by simpa using h5
        omega
      · skip
        have h5' : ¬ ps10.length < ps12.length := by simpa using h5
        refine KW.skip ?_
        refine NW.seq ?_
        refine KW.seq ?_
        refine KW.seq ?_
        refine CW.region (S := noS) [(0, .q), (1, .q), (2, .q), (3, .q), (4, .q)] rfl ?_
        refine EW.move rfl rfl rfl rfl rfl rfl ?_
        refine EW.len rfl rfl rfl rfl rfl rfl ?_
        refine EW.move rfl rfl rfl rfl rfl rfl ?_
        refine EW.len rfl rfl rfl rfl rfl rfl ?_
        refine EW.bin rfl rfl rfl rfl rfl rfl rfl BV.gtr ?_
        refine EW.done ?_
        refine NW.seq ?_
        refine KW.cond rfl (fun h6 => ?_) (fun h6 => ?_)
        · skip
          refine KW.seq ?_
          refine CW.region (S := noS) [(0, .q)] rfl ?_
          refine EW.assign rfl rfl rfl rfl rfl rfl ?_
          refine EW.done ?_
          refine NW.seq ?_
          refine KW.ret1 rfl rfl ?_
          refine ⟨_, rfl, hs.keep, ?_⟩
          have h6' : ps12.length < ps10.length := by simpa using h6
          rw [he, if_neg h5', if_pos h6']
        · skip
          have h6' : ¬ ps12.length < ps10.length := by simpa using h6
          omega
  · skip
    have h1' : ¬ k < ps10.length := by simpa using h1
    have he := hend (by omega)
    refine EW.off rfl rfl rfl rfl ?_
    refine EW.off rfl rfl rfl rfl ?_
    refine EW.off rfl rfl rfl rfl ?_
    refine EW.off rfl rfl rfl rfl ?_
    refine EW.pick rfl rfl rfl rfl rfl rfl rfl ?_
    refine EW.done ?_
    refine NW.seq ?_
    refine CW.cond_f rfl (rfl) ?_
    refine KW.exit ?_
    refine XW.seq ?_
    refine XW.inv ?_
    refine XW.blk ?_
    refine NW.seq ?_
    refine KW.seq ?_
    refine KW.seq ?_
    refine CW.region (S := noS) [(0, .q), (1, .q), (2, .q), (3, .q), (4, .q)] rfl ?_
    refine EW.move rfl rfl rfl rfl rfl rfl ?_
    refine EW.len rfl rfl rfl rfl rfl rfl ?_
    refine EW.move rfl rfl rfl rfl rfl rfl ?_
    refine EW.len rfl rfl rfl rfl rfl rfl ?_
    refine EW.bin rfl rfl rfl rfl rfl rfl rfl BV.lss ?_
    refine EW.done ?_
    refine NW.seq ?_
    refine KW.cond rfl (fun h5 => ?_) (fun h5 => ?_)
    · skip
      have h5' : ps10.length < ps12.length := by simpa using h5
      refine KW.seq ?_
      refine CW.region (S := noS) [(0, .q)] rfl ?_
      refine EW.assign rfl rfl rfl rfl rfl rfl ?_
      refine EW.done ?_
      refine NW.seq ?_
      refine KW.ret1 rfl rfl ?_
      refine ⟨_, rfl, hs.keep, ?_⟩
      rw [he, if_pos h5']
    · skip
      have h5' : ¬ ps10.length < ps12.length := by simpa using h5
      refine KW.skip ?_
      refine NW.seq ?_
      refine KW.seq ?_
      refine KW.seq ?_
      refine CW.region (S := noS) [(0, .q), (1, .q), (2, .q), (3, .q), (4, .q)] rfl ?_
      refine EW.move rfl rfl rfl rfl rfl rfl ?_
      refine EW.len rfl rfl rfl rfl rfl rfl ?_
      refine EW.move rfl rfl rfl rfl rfl rfl ?_
      refine EW.len rfl rfl rfl rfl rfl rfl ?_
      refine EW.bin rfl rfl rfl rfl rfl rfl rfl BV.gtr ?_
      refine EW.done ?_
      refine NW.seq ?_
      refine KW.cond rfl (fun h6 => ?_) (fun h6 => ?_)
      · skip
        have h6' : ps12.length < ps10.length := by simpa using h6
        omega
      · skip
        have h6' : ¬ ps12.length < ps10.length := by simpa using h6
        refine KW.skip ?_
        refine NW.seq ?_
        refine KW.seq ?_
        refine CW.region (S := noS) [(0, .q)] rfl ?_
        refine EW.assign rfl rfl rfl rfl rfl rfl ?_
        refine EW.done ?_
        refine NW.seq ?_
        refine KW.ret1 rfl rfl ?_
        refine ⟨_, rfl, hs.keep, ?_⟩
        rw [he, if_neg h5', if_neg h6']


theorem bytesLess_cmp : ∀ x y : List UInt8, Op.bytesLess x y = decide (cmpL cmpB x y < 0)
  | [], [] => by simp [Op.bytesLess, cmpL]
  | [], _ :: _ => by simp [Op.bytesLess, cmpL]
  | _ :: _, [] => by simp [Op.bytesLess, cmpL]
  | a :: x, b :: y => by
    have e : cmpL cmpB (a :: x) (b :: y) = if cmpB a b = 0 then cmpL cmpB x y else cmpB a b := rfl
    have e2 : Op.bytesLess (a :: x) (b :: y) = (decide (a < b) || (a == b && Op.bytesLess x y)) := rfl
    rw [e2, bytesLess_cmp x y]
    have h1 : (a < b) ↔ a.toNat < b.toNat := UInt8.lt_iff_toNat_lt
    by_cases hab : a = b
    · subst hab
      have e3 : cmpL cmpB (a :: x) (a :: y) = cmpL cmpB x y := by rw [e, if_pos (lawB.zero a a |>.2 rfl)]
      simp [e3]
    · have hne : cmpB a b ≠ 0 := fun h => hab ((lawB.zero a b).1 h)
      have e3 : cmpL cmpB (a :: x) (b :: y) = cmpB a b := by rw [e, if_neg hne]
      have : (a == b) = false := by simpa using hab
      simp only [e3, this, Bool.false_and, Bool.or_false]
      unfold cmpB
      by_cases h : a.toNat < b.toNat
      · simp [h1, h]
      · have : ¬ a < b := fun x => h (h1.1 x)
        by_cases h' : b.toNat < a.toNat <;> simp [this, h, h']
theorem bytesLess_S (a b : ByteArray) : Op.bytesLess a.toList b.toList = decide (cmpS a b < 0) := by
  rw [bytesLess_cmp, ByteArray.toList_eq, ByteArray.toList_eq]; rfl

theorem refCmp_spec (w0 : World) (a b : Lab) (ha : Sm a) (hb : Sm b) :
    T1 Tryz.prog 40 [encL a, encL b] w0 fun v w' => v = .int .i64 (cmpLab a b) := by
  obtain ⟨ha1, ha2⟩ := ha
  obtain ⟨hb1, hb2⟩ := hb
  refine KW.enterT1 (n := 26) Tryz.func40 rfl rfl rfl ?_
  have hs := St.init w0 noS
  refine KW.seq ?_
  refine CW.region (S := noS) [(0, .l), (1, .l), (2, .q)] rfl ?_
  refine EW.box hs rfl rfl rfl rfl rfl rfl ?_
  clear hs; intro b2 w hs
  refine EW.box hs rfl rfl rfl rfl rfl rfl ?_
  clear hs; intro b3 w hs
  refine EW.assign rfl rfl rfl rfl rfl rfl ?_
  refine EW.done ?_
  refine NW.seq ?_
  refine KW.seq ?_
  refine CW.region (S := noS) [(0, .q), (1, .q), (2, .q), (3, .q), (4, .l), (5, .q)] rfl ?_
  first | refine EW.fieldAddr rfl rfl rfl rfl rfl rfl ?_ | refine EW.fieldAddrA rfl rfl rfl rfl rfl rfl ?_
  refine EW.loadP rfl rfl rfl rfl rfl rfl (by first | assumption | (apply LDP.drew; assumption) | exact St.ld1 hs 0 rfl rfl | exact St.ldA hs 0 rfl rfl rfl | exact St.ld1 hs 1 rfl rfl | exact St.ldA hs 1 rfl rfl rfl | exact St.ld1 hs 2 rfl rfl | exact St.ldA hs 2 rfl rfl rfl | exact St.ld1 hs 3 rfl rfl | exact St.ldA hs 3 rfl rfl rfl | exact St.ld1 hs 4 rfl rfl | exact St.ldA hs 4 rfl rfl rfl | exact St.ld1 hs 5 rfl rfl | exact St.ldA hs 5 rfl rfl rfl | exact St.ld1 hs 6 rfl rfl | exact St.ldA hs 6 rfl rfl rfl) (by first | exact .inl rfl | exact .inr (fun h => h)) ?_
  first | refine EW.fieldAddr rfl rfl rfl rfl rfl rfl ?_ | refine EW.fieldAddrA rfl rfl rfl rfl rfl rfl ?_
  refine EW.loadP rfl rfl rfl rfl rfl rfl (by first | assumption | (apply LDP.drew; assumption) | exact St.ld1 hs 0 rfl rfl | exact St.ldA hs 0 rfl rfl rfl | exact St.ld1 hs 1 rfl rfl | exact St.ldA hs 1 rfl rfl rfl | exact St.ld1 hs 2 rfl rfl | exact St.ldA hs 2 rfl rfl rfl | exact St.ld1 hs 3 rfl rfl | exact St.ldA hs 3 rfl rfl rfl | exact St.ld1 hs 4 rfl rfl | exact St.ldA hs 4 rfl rfl rfl | exact St.ld1 hs 5 rfl rfl | exact St.ldA hs 5 rfl rfl rfl | exact St.ld1 hs 6 rfl rfl | exact St.ldA hs 6 rfl rfl rfl) (by first | exact .inl rfl | exact .inr (fun h => h)) ?_
  refine EW.callT1 (refPathCmp_spec _ _ _ (by assumption) (by assumption)) rfl rfl rfl rfl rfl Tryz.func52 bd52 nm52 rfl ?_
  intro v10 w hk10 hp10
  subst hp10
  replace hs := hs.stay hk10
  refine EW.assign rfl rfl rfl rfl rfl rfl ?_
  refine EW.done ?_
  refine NW.seq ?_
  refine KW.seq ?_
  refine KW.seq ?_
  refine CW.region (S := noS) [(0, .q), (1, .q), (2, .q), (3, .q), (4, .q), (5, .q), (6, .q), (7, .q), (8, .q)] rfl ?_
  refine EW.move rfl rfl rfl rfl rfl rfl ?_
  refine EW.bin rfl rfl rfl rfl rfl rfl rfl BV.nei ?_
  refine EW.move rfl rfl rfl rfl rfl rfl ?_
  refine EW.caseB (fun h1 => ?_) (fun h1 => ?_)
  · skip
    have h1' : cmpP a.pkg b.pkg ≠ 0 := by simpa using h1
    refine EW.off rfl rfl rfl rfl ?_
    refine EW.off rfl rfl rfl rfl ?_
    refine EW.off rfl rfl rfl rfl ?_
    refine EW.off rfl rfl rfl rfl ?_
    refine EW.off rfl rfl rfl rfl ?_
    refine EW.pick rfl rfl rfl rfl rfl rfl rfl ?_
    refine EW.done ?_
    refine NW.seq ?_
    refine CW.cond_t rfl (rfl) ?_
    refine KW.seq ?_
    refine CW.region (S := noS) [(0, .q), (1, .q)] rfl ?_
    refine EW.move rfl rfl rfl rfl rfl rfl ?_
    refine EW.assign rfl rfl rfl rfl rfl rfl ?_
    refine EW.done ?_
    refine NW.seq ?_
    refine KW.ret1 rfl rfl ?_
    refine ⟨_, rfl, hs.keep, ?_⟩
    rw [cmpLab, if_neg h1']
  · skip
    have h1' : cmpP a.pkg b.pkg = 0 := by simpa using h1
    first | refine EW.fieldAddr rfl rfl rfl rfl rfl rfl ?_ | refine EW.fieldAddrA rfl rfl rfl rfl rfl rfl ?_
    refine EW.loadP rfl rfl rfl rfl rfl rfl (by first | assumption | (apply LDP.drew; assumption) | exact St.ld1 hs 0 rfl rfl | exact St.ldA hs 0 rfl rfl rfl | exact St.ld1 hs 1 rfl rfl | exact St.ldA hs 1 rfl rfl rfl | exact St.ld1 hs 2 rfl rfl | exact St.ldA hs 2 rfl rfl rfl | exact St.ld1 hs 3 rfl rfl | exact St.ldA hs 3 rfl rfl rfl | exact St.ld1 hs 4 rfl rfl | exact St.ldA hs 4 rfl rfl rfl | exact St.ld1 hs 5 rfl rfl | exact St.ldA hs 5 rfl rfl rfl | exact St.ld1 hs 6 rfl rfl | exact St.ldA hs 6 rfl rfl rfl) (by first | exact .inl rfl | exact .inr (fun h => h)) ?_
    first | refine EW.fieldAddr rfl rfl rfl rfl rfl rfl ?_ | refine EW.fieldAddrA rfl rfl rfl rfl rfl rfl ?_
    refine EW.loadP rfl rfl rfl rfl rfl rfl (by first | assumption | (apply LDP.drew; assumption) | exact St.ld1 hs 0 rfl rfl | exact St.ldA hs 0 rfl rfl rfl | exact St.ld1 hs 1 rfl rfl | exact St.ldA hs 1 rfl rfl rfl | exact St.ld1 hs 2 rfl rfl | exact St.ldA hs 2 rfl rfl rfl | exact St.ld1 hs 3 rfl rfl | exact St.ldA hs 3 rfl rfl rfl | exact St.ld1 hs 4 rfl rfl | exact St.ldA hs 4 rfl rfl rfl | exact St.ld1 hs 5 rfl rfl | exact St.ldA hs 5 rfl rfl rfl | exact St.ld1 hs 6 rfl rfl | exact St.ldA hs 6 rfl rfl rfl) (by first | exact .inl rfl | exact .inr (fun h => h)) ?_
    refine EW.bin rfl rfl rfl rfl rfl rfl rfl BV.eqs ?_
    refine EW.pick rfl rfl rfl rfl rfl rfl rfl ?_
    refine EW.done ?_
    refine NW.seq ?_
    refine KW.cond rfl (fun h2 => ?_) (fun h2 => ?_)
    · skip
      have h2' : a.nm = b.nm := by simpa using h2
      refine KW.seq ?_
      refine CW.region (S := noS) [(0, .q), (1, .q)] rfl ?_
      refine EW.move rfl rfl rfl rfl rfl rfl ?_
      refine EW.assign rfl rfl rfl rfl rfl rfl ?_
      refine EW.done ?_
      refine NW.seq ?_
      refine KW.ret1 rfl rfl ?_
      refine ⟨_, rfl, hs.keep, ?_⟩
      rw [cmpLab, if_pos h1', h2', (lawS.zero _ _).2 rfl, h1']
    · skip
      have h2' : ¬ a.nm = b.nm := by simpa using h2
      refine KW.skip ?_
      refine NW.seq ?_
      refine KW.seq ?_
      refine KW.seq ?_
      refine CW.region (S := noS) [(0, .q), (1, .q), (2, .q), (3, .q), (4, .q)] rfl ?_
      first | refine EW.fieldAddr rfl rfl rfl rfl rfl rfl ?_ | refine EW.fieldAddrA rfl rfl rfl rfl rfl rfl ?_
      refine EW.loadP rfl rfl rfl rfl rfl rfl (by first | assumption | (apply LDP.drew; assumption) | exact St.ld1 hs 0 rfl rfl | exact St.ldA hs 0 rfl rfl rfl | exact St.ld1 hs 1 rfl rfl | exact St.ldA hs 1 rfl rfl rfl | exact St.ld1 hs 2 rfl rfl | exact St.ldA hs 2 rfl rfl rfl | exact St.ld1 hs 3 rfl rfl | exact St.ldA hs 3 rfl rfl rfl | exact St.ld1 hs 4 rfl rfl | exact St.ldA hs 4 rfl rfl rfl | exact St.ld1 hs 5 rfl rfl | exact St.ldA hs 5 rfl rfl rfl | exact St.ld1 hs 6 rfl rfl | exact St.ldA hs 6 rfl rfl rfl) (by first | exact .inl rfl | exact .inr (fun h => h)) ?_
      first | refine EW.fieldAddr rfl rfl rfl rfl rfl rfl ?_ | refine EW.fieldAddrA rfl rfl rfl rfl rfl rfl ?_
      refine EW.loadP rfl rfl rfl rfl rfl rfl (by first | assumption | (apply LDP.drew; assumption) | exact St.ld1 hs 0 rfl rfl | exact St.ldA hs 0 rfl rfl rfl | exact St.ld1 hs 1 rfl rfl | exact St.ldA hs 1 rfl rfl rfl | exact St.ld1 hs 2 rfl rfl | exact St.ldA hs 2 rfl rfl rfl | exact St.ld1 hs 3 rfl rfl | exact St.ldA hs 3 rfl rfl rfl | exact St.ld1 hs 4 rfl rfl | exact St.ldA hs 4 rfl rfl rfl | exact St.ld1 hs 5 rfl rfl | exact St.ldA hs 5 rfl rfl rfl | exact St.ld1 hs 6 rfl rfl | exact St.ldA hs 6 rfl rfl rfl) (by first | exact .inl rfl | exact .inr (fun h => h)) ?_
      refine EW.bin rfl rfl rfl rfl rfl rfl rfl BV.lts ?_
      refine EW.done ?_
      refine NW.seq ?_
      refine KW.cond rfl (fun h3 => ?_) (fun h3 => ?_)
      · skip
        refine KW.seq ?_
        refine CW.region (S := noS) [(0, .q)] rfl ?_
        refine EW.assign rfl rfl rfl rfl rfl rfl ?_
        refine EW.done ?_
        refine NW.seq ?_
        refine KW.ret1 rfl rfl ?_
        refine ⟨_, rfl, hs.keep, ?_⟩
        rw [bytesLess_S] at h3
        have h3' : cmpS a.nm b.nm < 0 := by simpa using h3
        have := lawS.rng a.nm b.nm
        rw [cmpLab, if_pos h1']
        congr 1
        omega
      · skip
        refine KW.skip ?_
        refine NW.seq ?_
        refine KW.seq ?_
        refine CW.region (S := noS) [(0, .q)] rfl ?_
        refine EW.assign rfl rfl rfl rfl rfl rfl ?_
        refine EW.done ?_
        refine NW.seq ?_
        refine KW.ret1 rfl rfl ?_
        refine ⟨_, rfl, hs.keep, ?_⟩
        rw [bytesLess_S] at h3
        have h3' : ¬ cmpS a.nm b.nm < 0 := by simpa using h3
        have := lawS.rng a.nm b.nm
        have h4 : cmpS a.nm b.nm ≠ 0 := fun h => h2' ((lawS.zero _ _).1 h)
        rw [cmpLab, if_pos h1']
        congr 1
        omega

theorem refLess_spec (w0 : World) (a b : Lab) (ha : Sm a) (hb : Sm b) :
    T1 Tryz.prog 21 [encL a, encL b] w0 fun v w' => v = .bool (ltLab a b) := by
  refine KW.enterT1 (n := 22) Tryz.func21 rfl rfl rfl ?_
  have hs := St.init w0 noS
  refine KW.seq ?_
  refine CW.region (S := noS) [(0, .l), (1, .l), (2, .q)] rfl ?_
  refine EW.box hs rfl rfl rfl rfl rfl rfl ?_
  clear hs; intro b2 w hs
  refine EW.box hs rfl rfl rfl rfl rfl rfl ?_
  clear hs; intro b3 w hs
  refine EW.assign rfl rfl rfl rfl rfl rfl ?_
  refine EW.done ?_
  refine NW.seq ?_
  refine KW.seq ?_
  refine CW.region (S := noS) [(0, .q), (1, .q), (2, .l), (3, .q)] rfl ?_
  refine EW.loadP rfl rfl rfl rfl rfl rfl (by first | assumption | (apply LDP.drew; assumption) | exact St.ld1 hs 0 rfl rfl | exact St.ldA hs 0 rfl rfl rfl | exact St.ld1 hs 1 rfl rfl | exact St.ldA hs 1 rfl rfl rfl | exact St.ld1 hs 2 rfl rfl | exact St.ldA hs 2 rfl rfl rfl | exact St.ld1 hs 3 rfl rfl | exact St.ldA hs 3 rfl rfl rfl | exact St.ld1 hs 4 rfl rfl | exact St.ldA hs 4 rfl rfl rfl | exact St.ld1 hs 5 rfl rfl | exact St.ldA hs 5 rfl rfl rfl | exact St.ld1 hs 6 rfl rfl | exact St.ldA hs 6 rfl rfl rfl) (by first | exact .inl rfl | exact .inr (fun h => h)) ?_
  refine EW.loadP rfl rfl rfl rfl rfl rfl (by first | assumption | (apply LDP.drew; assumption) | exact St.ld1 hs 0 rfl rfl | exact St.ldA hs 0 rfl rfl rfl | exact St.ld1 hs 1 rfl rfl | exact St.ldA hs 1 rfl rfl rfl | exact St.ld1 hs 2 rfl rfl | exact St.ldA hs 2 rfl rfl rfl | exact St.ld1 hs 3 rfl rfl | exact St.ldA hs 3 rfl rfl rfl | exact St.ld1 hs 4 rfl rfl | exact St.ldA hs 4 rfl rfl rfl | exact St.ld1 hs 5 rfl rfl | exact St.ldA hs 5 rfl rfl rfl | exact St.ld1 hs 6 rfl rfl | exact St.ldA hs 6 rfl rfl rfl) (by first | exact .inl rfl | exact .inr (fun h => h)) ?_
  refine EW.callT1 (refCmp_spec _ _ _ (by assumption) (by assumption)) rfl rfl rfl rfl rfl Tryz.func40 bd40 nm40 rfl ?_
  intro v8 w hk8 hp8
  subst hp8
  replace hs := hs.stay hk8
  refine EW.assign rfl rfl rfl rfl rfl rfl ?_
  refine EW.done ?_
  refine NW.seq ?_
  refine KW.seq ?_
  refine CW.region (S := noS) [(0, .q), (1, .q), (2, .q), (3, .q), (4, .q), (5, .q), (6, .q), (7, .q), (8, .q), (9, .q), (10, .q), (11, .q), (12, .q), (13, .q)] rfl ?_
  refine EW.move rfl rfl rfl rfl rfl rfl ?_
  refine EW.bin rfl rfl rfl rfl rfl rfl rfl BV.lss ?_
  refine EW.move rfl rfl rfl rfl rfl rfl ?_
  refine EW.caseB (fun h1 => ?_) (fun h1 => ?_)
  · skip
    refine EW.off rfl rfl rfl rfl ?_
    refine EW.off rfl rfl rfl rfl ?_
    refine EW.off rfl rfl rfl rfl ?_
    refine EW.off rfl rfl rfl rfl ?_
    refine EW.off rfl rfl rfl rfl ?_
    refine EW.off rfl rfl rfl rfl ?_
    refine EW.off rfl rfl rfl rfl ?_
    refine EW.off rfl rfl rfl rfl ?_
    refine EW.off rfl rfl rfl rfl ?_
    refine EW.pick rfl rfl rfl rfl rfl rfl rfl ?_
    refine EW.assign rfl rfl rfl rfl rfl rfl ?_
    refine EW.done ?_
    refine NW.seq ?_
    refine KW.ret1 rfl rfl ?_
    refine ⟨_, rfl, hs.keep, ?_⟩
    rw [ltLab, h1]
  · skip
    refine EW.move rfl rfl rfl rfl rfl rfl ?_
    refine EW.bin rfl rfl rfl rfl rfl rfl rfl BV.eqi ?_
    refine EW.move rfl rfl rfl rfl rfl rfl ?_
    refine EW.caseB (fun h2 => ?_) (fun h2 => ?_)
    · skip
      first | refine EW.fieldAddr rfl rfl rfl rfl rfl rfl ?_ | refine EW.fieldAddrA rfl rfl rfl rfl rfl rfl ?_
      refine EW.loadP rfl rfl rfl rfl rfl rfl (by first | assumption | (apply LDP.drew; assumption) | exact St.ld1 hs 0 rfl rfl | exact St.ldA hs 0 rfl rfl rfl | exact St.ld1 hs 1 rfl rfl | exact St.ldA hs 1 rfl rfl rfl | exact St.ld1 hs 2 rfl rfl | exact St.ldA hs 2 rfl rfl rfl | exact St.ld1 hs 3 rfl rfl | exact St.ldA hs 3 rfl rfl rfl | exact St.ld1 hs 4 rfl rfl | exact St.ldA hs 4 rfl rfl rfl | exact St.ld1 hs 5 rfl rfl | exact St.ldA hs 5 rfl rfl rfl | exact St.ld1 hs 6 rfl rfl | exact St.ldA hs 6 rfl rfl rfl) (by first | exact .inl rfl | exact .inr (fun h => h)) ?_
      first | refine EW.fieldAddr rfl rfl rfl rfl rfl rfl ?_ | refine EW.fieldAddrA rfl rfl rfl rfl rfl rfl ?_
      refine EW.loadP rfl rfl rfl rfl rfl rfl (by first | assumption | (apply LDP.drew; assumption) | exact St.ld1 hs 0 rfl rfl | exact St.ldA hs 0 rfl rfl rfl | exact St.ld1 hs 1 rfl rfl | exact St.ldA hs 1 rfl rfl rfl | exact St.ld1 hs 2 rfl rfl | exact St.ldA hs 2 rfl rfl rfl | exact St.ld1 hs 3 rfl rfl | exact St.ldA hs 3 rfl rfl rfl | exact St.ld1 hs 4 rfl rfl | exact St.ldA hs 4 rfl rfl rfl | exact St.ld1 hs 5 rfl rfl | exact St.ldA hs 5 rfl rfl rfl | exact St.ld1 hs 6 rfl rfl | exact St.ldA hs 6 rfl rfl rfl) (by first | exact .inl rfl | exact .inr (fun h => h)) ?_
      refine EW.bin rfl rfl rfl rfl rfl rfl rfl BV.lts ?_
      refine EW.pick rfl rfl rfl rfl rfl rfl rfl ?_
      refine EW.pick rfl rfl rfl rfl rfl rfl rfl ?_
      refine EW.assign rfl rfl rfl rfl rfl rfl ?_
      refine EW.done ?_
      refine NW.seq ?_
      refine KW.ret1 rfl rfl ?_
      refine ⟨_, rfl, hs.keep, ?_⟩
      have h2' : cmpLab a b = 0 := by simpa using h2
      have e := (lawLab.zero a b).1 h2'
      subst e
      rw [bytesLess_S, (lawS.zero _ _).2 rfl, ltLab, h2']
    · skip
      refine EW.off rfl rfl rfl rfl ?_
      refine EW.off rfl rfl rfl rfl ?_
      refine EW.off rfl rfl rfl rfl ?_
      refine EW.off rfl rfl rfl rfl ?_
      refine EW.off rfl rfl rfl rfl ?_
      refine EW.pick rfl rfl rfl rfl rfl rfl rfl ?_
      refine EW.pick rfl rfl rfl rfl rfl rfl rfl ?_
      refine EW.assign rfl rfl rfl rfl rfl rfl ?_
      refine EW.done ?_
      refine NW.seq ?_
      refine KW.ret1 rfl rfl ?_
      refine ⟨_, rfl, hs.keep, ?_⟩
      rw [ltLab, h1]
end Go.Cw.Tryz
set_option linter.unusedVariables false
namespace Go.Cw.Tryz
open Go.Proofs Go.Cw
attribute [local irreducible] Go.Addr.add

theorem Rising_spec (w0 : World) (A : Option Addr) (c : Nat) (xs : List Lab) (hx : SlA elL w0 A xs) (hl : xs.length ≤ 1048576) (hsm : ∀ a ∈ xs, Sm a) :
    T1 Tryz.prog 15 [.slice A xs.length c] w0 fun v w' => Fresh elL w0 w' v (risingL xs) := by
  refine KW.enterT1 (n := 63) Tryz.func15 rfl rfl rfl ?_
  have hs := St.init w0 noS
  refine KW.seq ?_
  refine CW.region (S := noS) [(0, .q)] rfl ?_
  refine EW.assign rfl rfl rfl rfl rfl rfl ?_
  refine EW.done ?_
  refine NW.seq ?_
  refine KW.seq ?_
  refine CW.region (S := noS) [(0, .q)] rfl ?_
  refine EW.assign rfl rfl rfl rfl rfl rfl ?_
  refine EW.done ?_
  refine NW.seq ?_
  refine KW.seq ?_
  refine KW.seq ?_
  refine CW.region (S := noS) [(0, .q)] rfl ?_
  refine EW.assign rfl rfl rfl rfl rfl rfl ?_
  refine EW.done ?_
  refine NW.seq ?_
  refine KW.block ?_
  replace hs := hs.nil elL
  refine KW.loop (ι := Nat × Value) (fun i => xs.length - i.1) (fun i => [(0, .slice A xs.length c), (3, i.2), (4, .int .i64 (i.1 : Int))]) (fun i w => i.1 ≤ xs.length ∧ St w0 noS w [own elL i.2 (risingL (xs.take i.1))]) (0, .slice none 0 0) (by repeat (first | exact trivial | (refine ⟨by first | rfl | (congr 2; omega) | (simp; done) | (congr 1; simp; done), ?_⟩))) ?_ ?_
  · exact ⟨Nat.zero_le _, hs⟩
  clear hs
  rintro ⟨k, v⟩ w ⟨hk, hs⟩
  dsimp only at hk hs
  refine KW.seq ?_
  refine KW.seq ?_
  refine CW.region (S := noS) [(0, .q), (1, .q), (2, .q), (3, .q)] rfl ?_
  refine EW.move rfl rfl rfl rfl rfl rfl ?_
  refine EW.move rfl rfl rfl rfl rfl rfl ?_
  refine EW.len rfl rfl rfl rfl rfl rfl ?_
  refine EW.bin rfl rfl rfl rfl rfl rfl rfl BV.lss ?_
  refine EW.done ?_
  refine NW.seq ?_
  by_cases hlt : k < xs.length
  · refine CW.cond_t rfl (by simpa using hlt) ?_
    obtain ⟨ad, rfl, hadb, hld⟩ := hx.at_ hlt
    have hxk : xs[k]? = some xs[k] := by simp
    have hsmk : Sm xs[k] := hsm _ (List.getElem_mem hlt)
    have hld1 : ∀ w, Keep noS w0 w → LDP Tryz.prog w 44 (ad.add ((k : Int).toNat * 2)) (encL xs[k]) := fun w hk => (hld k xs[k] (by simp)).keep hk (fun h => h)
    have hstep : risingL (xs.take (k + 1)) = insL xs[k] (risingL (xs.take k)) := by
      rw [List.take_succ_eq_append_getElem hlt, rising_snoc]
    have hlen : (risingL (xs.take k)).length ≤ k := Nat.le_trans (length_risingL _) (by simp; omega)
    have hmem : ∀ a ∈ risingL (xs.take k), Sm a := fun a ha => hsm a (List.mem_of_mem_take ((rising_spec _).2 a |>.1 ha))
    generalize risingL (xs.take k) = out at hs hstep hlen hmem
    generalize hxx : xs[k] = x at hxk hsmk hld1 hstep
    obtain ⟨A3, c3, rfl, _, hc3, hm3, hA3, hA3n⟩ := own_sl (hs.res 0 rfl)
    refine KW.skip ?_
    refine NW.seq ?_
    refine KW.seq ?_
    refine KW.block ?_
    refine KW.seq ?_
    refine CW.region (S := noS) [(0, .q)] rfl ?_
    refine EW.assign rfl rfl rfl rfl rfl rfl ?_
    refine EW.done ?_
    refine NW.seq ?_
    refine KW.cut (ι := Nat) (fun j => [(0, .slice (some ad) xs.length c), (3, .slice A3 out.length c3), (4, .int .i64 (k : Int)), (5, .int .i64 (j : Int))]) (fun j w => j ≤ out.length ∧ (∀ t, t < j → ∀ y, out[t]? = some y → ltLab y x = true) ∧ (∀ y, out[j]? = some y → ltLab y x = false) ∧ St w0 noS w [own elL (.slice A3 out.length c3) out]) ?_ ?_
    · skip
      refine KW.block ?_
      refine KW.loop (ι := Nat) (fun j => out.length - j) (fun j => [(0, .slice (some ad) xs.length c), (3, .slice A3 out.length c3), (4, .int .i64 (k : Int)), (5, .int .i64 (j : Int))]) (fun j w => j ≤ out.length ∧ (∀ t, t < j → ∀ y, out[t]? = some y → ltLab y x = true) ∧ St w0 noS w [own elL (.slice A3 out.length c3) out]) 0 (by repeat (first | exact trivial | (refine ⟨by first | rfl | (congr 2; omega) | (simp; done) | (congr 1; simp; done), ?_⟩))) ?_ ?_
      · exact ⟨Nat.zero_le _, fun t ht => by omega, hs⟩
      clear hs
      rintro j w ⟨hj, hall, hs⟩
      refine KW.seq ?_
      refine KW.seq ?_
      refine CW.regionD (noS) [(0, .q), (1, .q), (2, .q), (3, .q), (4, .q), (5, .q), (6, .q), (7, .q), (8, .q), (9, .q), (10, .q), (11, .q), (12, .q), (13, .l), (14, .q)] mixed (by kernel_rfl) ?_
      replace hs := hs.drew
      refine EW.move rfl rfl rfl rfl rfl rfl ?_
      refine EW.move rfl rfl rfl rfl rfl rfl ?_
      refine EW.len rfl rfl rfl rfl rfl rfl ?_
      refine EW.bin rfl rfl rfl rfl rfl rfl rfl BV.lss ?_
      refine EW.move rfl rfl rfl rfl rfl rfl ?_
      refine EW.caseB (fun h1 => ?_) (fun h1 => ?_)
      · skip
        have h1' : j < out.length := by simpa using h1
        obtain ⟨a3, rfl, _, hld3⟩ := (hs.sl 0 rfl).at_ h1'
        have g1 : LDP Tryz.prog w.drew 44 (a3.add ((j : Int).toNat * 2)) (encL out[j]) := hld3 j out[j] (by simp)
        have g2 : LDP Tryz.prog w.drew 44 (ad.add ((k : Int).toNat * 2)) (encL x) := hld1 _ hs.keep
        have hsj : Sm out[j] := hmem _ (List.getElem_mem h1')
        refine EW.move rfl rfl rfl rfl rfl rfl ?_
        refine EW.move rfl rfl rfl rfl rfl rfl ?_
        refine EW.indexAddr rfl rfl rfl rfl rfl rfl rfl (by omega) (by omega) ?_
        refine EW.loadP rfl rfl rfl rfl rfl rfl (by first | assumption | (apply LDP.drew; assumption) | exact St.ld1 hs 0 rfl rfl | exact St.ldA hs 0 rfl rfl rfl | exact St.ld1 hs 1 rfl rfl | exact St.ldA hs 1 rfl rfl rfl | exact St.ld1 hs 2 rfl rfl | exact St.ldA hs 2 rfl rfl rfl | exact St.ld1 hs 3 rfl rfl | exact St.ldA hs 3 rfl rfl rfl | exact St.ld1 hs 4 rfl rfl | exact St.ldA hs 4 rfl rfl rfl | exact St.ld1 hs 5 rfl rfl | exact St.ldA hs 5 rfl rfl rfl | exact St.ld1 hs 6 rfl rfl | exact St.ldA hs 6 rfl rfl rfl) (by first | exact .inl rfl | exact .inr (fun h => h)) ?_
        refine EW.move rfl rfl rfl rfl rfl rfl ?_
        refine EW.move rfl rfl rfl rfl rfl rfl ?_
        refine EW.indexAddr rfl rfl rfl rfl rfl rfl rfl (by omega) (by omega) ?_
        refine EW.loadP rfl rfl rfl rfl rfl rfl (by first | assumption | (apply LDP.drew; assumption) | exact St.ld1 hs 0 rfl rfl | exact St.ldA hs 0 rfl rfl rfl | exact St.ld1 hs 1 rfl rfl | exact St.ldA hs 1 rfl rfl rfl | exact St.ld1 hs 2 rfl rfl | exact St.ldA hs 2 rfl rfl rfl | exact St.ld1 hs 3 rfl rfl | exact St.ldA hs 3 rfl rfl rfl | exact St.ld1 hs 4 rfl rfl | exact St.ldA hs 4 rfl rfl rfl | exact St.ld1 hs 5 rfl rfl | exact St.ldA hs 5 rfl rfl rfl | exact St.ld1 hs 6 rfl rfl | exact St.ldA hs 6 rfl rfl rfl) (by first | exact .inl rfl | exact .inr (fun h => h)) ?_
        refine EW.callT1 (refLess_spec _ _ _ (by assumption) (by assumption)) rfl rfl rfl rfl rfl Tryz.func21 bd21 nm21 rfl ?_
        intro v26 w hk26 hp26
        subst hp26
        replace hs := hs.stay hk26
        refine EW.pick rfl rfl rfl rfl rfl rfl rfl ?_
        refine EW.done ?_
        refine NW.seq ?_
        refine KW.cond rfl (fun h2 => ?_) (fun h2 => ?_)
        · skip
          refine KW.skip ?_
          refine NW.seq ?_
          refine KW.block ?_
          refine CW.region (S := noS) [(0, .q), (1, .q), (2, .q)] rfl ?_
          refine EW.move rfl rfl rfl rfl rfl rfl ?_
          refine EW.bin rfl rfl rfl rfl rfl rfl rfl (BV.add (wrap_i64 (by omega) (by omega))) ?_
          refine EW.assign rfl rfl rfl rfl rfl rfl ?_
          refine EW.done ?_
          refine NW.blk ?_
          refine NW.again (j + 1) (by first | (dsimp only; omega) | omega | (simp; omega)) (by repeat (first | exact trivial | (refine ⟨by first | rfl | (congr 2; omega) | (simp; done) | (congr 1; simp; done), ?_⟩))) ?_
          try dsimp only
          refine ⟨h1', fun t ht y hy => ?_, hs⟩
          by_cases htj : t = j
          · subst htj
            rw [List.getElem?_eq_getElem h1'] at hy
            injection hy with hy; rw [← hy]; exact h2
          · exact hall t (by omega) y hy
        · skip
          refine KW.exit ?_
          refine XW.seq ?_
          refine XW.inv ?_
          refine XW.blk ?_
          refine NW.meet (j) (by repeat (first | exact trivial | (refine ⟨by first | rfl | (congr 2; omega) | (simp; done) | (congr 1; simp; done), ?_⟩))) ?_
          try dsimp only
          refine ⟨hj, hall, fun y hy => ?_, hs⟩
          rw [List.getElem?_eq_getElem h1'] at hy
          injection hy with hy; rw [← hy]; exact h2
      · skip
        have h1' : ¬ j < out.length := by simpa using h1
        refine EW.off rfl rfl rfl rfl ?_
        refine EW.off rfl rfl rfl rfl ?_
        refine EW.off rfl rfl rfl rfl ?_
        refine EW.off rfl rfl rfl rfl ?_
        refine EW.off rfl rfl rfl rfl ?_
        refine EW.off rfl rfl rfl rfl ?_
        refine EW.off rfl rfl rfl rfl ?_
        refine EW.off rfl rfl rfl rfl ?_
        refine EW.off rfl rfl rfl rfl ?_
        refine EW.pick rfl rfl rfl rfl rfl rfl rfl ?_
        refine EW.done ?_
        refine NW.seq ?_
        refine CW.cond_f rfl (rfl) ?_
        refine KW.exit ?_
        refine XW.seq ?_
        refine XW.inv ?_
        refine XW.blk ?_
        refine NW.meet (j) (by repeat (first | exact trivial | (refine ⟨by first | rfl | (congr 2; omega) | (simp; done) | (congr 1; simp; done), ?_⟩))) ?_
        try dsimp only
        exact ⟨hj, hall, fun y hy => (by rw [List.getElem?_eq_none (by omega)] at hy; cases hy), hs⟩
    · skip
      clear hs
      rintro j w ⟨hj, hall, hnot, hs⟩
      have hins := ins_at x out j hj hall hnot
      refine KW.cut (ι := Unit) (fun _ => [(0, .slice (some ad) xs.length c), (3, .slice A3 out.length c3), (4, .int .i64 (k : Int)), (5, .int .i64 (j : Int))]) (fun _ w => out[j]? ≠ some x ∧ St w0 noS w [own elL (.slice A3 out.length c3) out]) ?_ ?_
      · skip
        refine KW.seq ?_
        refine CW.regionD (noS) [(0, .q), (1, .q), (2, .q), (3, .q), (4, .q), (5, .q), (6, .q), (7, .q), (8, .q), (9, .q), (10, .q), (11, .q), (12, .q), (13, .q), (14, .q)] mixed (by kernel_rfl) ?_
        replace hs := hs.drew
        refine EW.move rfl rfl rfl rfl rfl rfl ?_
        refine EW.move rfl rfl rfl rfl rfl rfl ?_
        refine EW.len rfl rfl rfl rfl rfl rfl ?_
        refine EW.bin rfl rfl rfl rfl rfl rfl rfl BV.lss ?_
        refine EW.move rfl rfl rfl rfl rfl rfl ?_
        refine EW.caseB (fun h1 => ?_) (fun h1 => ?_)
        · skip
          have h1' : j < out.length := by simpa using h1
          obtain ⟨a3, rfl, _, hld3⟩ := (hs.sl 0 rfl).at_ h1'
          have g1 : LDP Tryz.prog w.drew 44 (a3.add ((j : Int).toNat * 2)) (encL out[j]) := hld3 j out[j] (by simp)
          have g2 : LDP Tryz.prog w.drew 44 (ad.add ((k : Int).toNat * 2)) (encL x) := hld1 _ hs.keep
          refine EW.move rfl rfl rfl rfl rfl rfl ?_
          refine EW.move rfl rfl rfl rfl rfl rfl ?_
          refine EW.indexAddr rfl rfl rfl rfl rfl rfl rfl (by omega) (by omega) ?_
          refine EW.loadP rfl rfl rfl rfl rfl rfl (by first | assumption | (apply LDP.drew; assumption) | exact St.ld1 hs 0 rfl rfl | exact St.ldA hs 0 rfl rfl rfl | exact St.ld1 hs 1 rfl rfl | exact St.ldA hs 1 rfl rfl rfl | exact St.ld1 hs 2 rfl rfl | exact St.ldA hs 2 rfl rfl rfl | exact St.ld1 hs 3 rfl rfl | exact St.ldA hs 3 rfl rfl rfl | exact St.ld1 hs 4 rfl rfl | exact St.ldA hs 4 rfl rfl rfl | exact St.ld1 hs 5 rfl rfl | exact St.ldA hs 5 rfl rfl rfl | exact St.ld1 hs 6 rfl rfl | exact St.ldA hs 6 rfl rfl rfl) (by first | exact .inl rfl | exact .inr (fun h => h)) ?_
          refine EW.move rfl rfl rfl rfl rfl rfl ?_
          refine EW.move rfl rfl rfl rfl rfl rfl ?_
          refine EW.indexAddr rfl rfl rfl rfl rfl rfl rfl (by omega) (by omega) ?_
          refine EW.loadP rfl rfl rfl rfl rfl rfl (by first | assumption | (apply LDP.drew; assumption) | exact St.ld1 hs 0 rfl rfl | exact St.ldA hs 0 rfl rfl rfl | exact St.ld1 hs 1 rfl rfl | exact St.ldA hs 1 rfl rfl rfl | exact St.ld1 hs 2 rfl rfl | exact St.ldA hs 2 rfl rfl rfl | exact St.ld1 hs 3 rfl rfl | exact St.ldA hs 3 rfl rfl rfl | exact St.ld1 hs 4 rfl rfl | exact St.ldA hs 4 rfl rfl rfl | exact St.ld1 hs 5 rfl rfl | exact St.ldA hs 5 rfl rfl rfl | exact St.ld1 hs 6 rfl rfl | exact St.ldA hs 6 rfl rfl rfl) (by first | exact .inl rfl | exact .inr (fun h => h)) ?_
          refine EW.bin rfl rfl rfl rfl rfl rfl rfl (BVeq44) ?_
          refine EW.pick rfl rfl rfl rfl rfl rfl rfl ?_
          refine EW.done ?_
          refine NW.seq ?_
          refine KW.cond rfl (fun h2 => ?_) (fun h2 => ?_)
          · skip
            refine KW.exit ?_
            refine XW.inv ?_
            refine XW.blk ?_
            refine NW.seq ?_
            refine CW.region (S := noS) [(0, .q), (1, .q), (2, .q)] rfl ?_
            refine EW.move rfl rfl rfl rfl rfl rfl ?_
            refine EW.bin rfl rfl rfl rfl rfl rfl rfl (BV.add (wrap_i64 (by omega) (by omega))) ?_
            refine EW.assign rfl rfl rfl rfl rfl rfl ?_
            refine EW.done ?_
            refine NW.again ((k + 1, .slice (some a3) out.length c3)) (by first | (dsimp only; omega) | omega | (simp; omega)) (by repeat (first | exact trivial | (refine ⟨by first | rfl | (congr 2; omega) | (simp; done) | (congr 1; simp; done), ?_⟩))) ?_
            try dsimp only
            have h2' : out[j] = x := by simpa using h2
            rw [if_pos (by rw [List.getElem?_eq_getElem h1', h2'])] at hins
            refine ⟨by omega, ?_⟩
            rw [hstep, hins]; exact hs
          · skip
            refine KW.skip ?_
            refine NW.meet (()) (by repeat (first | exact trivial | (refine ⟨by first | rfl | (congr 2; omega) | (simp; done) | (congr 1; simp; done), ?_⟩))) ?_
            try dsimp only
            have h2' : ¬ out[j] = x := by simpa using h2
            exact ⟨by rw [List.getElem?_eq_getElem h1']; simpa using h2', hs⟩
        · skip
          have h1' : ¬ j < out.length := by simpa using h1
          refine EW.off rfl rfl rfl rfl ?_
          refine EW.off rfl rfl rfl rfl ?_
          refine EW.off rfl rfl rfl rfl ?_
          refine EW.off rfl rfl rfl rfl ?_
          refine EW.off rfl rfl rfl rfl ?_
          refine EW.off rfl rfl rfl rfl ?_
          refine EW.off rfl rfl rfl rfl ?_
          refine EW.off rfl rfl rfl rfl ?_
          refine EW.off rfl rfl rfl rfl ?_
          refine EW.pick rfl rfl rfl rfl rfl rfl rfl ?_
          refine EW.done ?_
          refine NW.seq ?_
          refine CW.cond_f rfl (rfl) ?_
          refine KW.skip ?_
          refine NW.meet (()) (by repeat (first | exact trivial | (refine ⟨by first | rfl | (congr 2; omega) | (simp; done) | (congr 1; simp; done), ?_⟩))) ?_
          try dsimp only
          exact ⟨by rw [List.getElem?_eq_none (by omega)]; simp, hs⟩
      · skip
        clear hs
        rintro _ w ⟨hne, hs⟩
        rw [if_neg hne] at hins
        replace hs := hs.nil elL
        have hcut : SlA elL w (cutA A3 c3 j 2) (out.drop j) := (hs.sl 1 rfl).cut hc3
        have hdl : (out.drop j).length = out.length - j := by simp
        refine KW.seq ?_
        refine CW.region (S := noS) [(0, .q)] rfl ?_
        refine EW.assign rfl rfl rfl rfl rfl rfl ?_
        refine EW.done ?_
        refine NW.seq ?_
        refine KW.seq ?_
        refine CW.region (S := noS) [(0, .q), (1, .q), (2, .q), (3, .q), (4, .l), (5, .q)] rfl ?_
        refine EW.move rfl rfl rfl rfl rfl rfl ?_
        refine EW.move rfl rfl rfl rfl rfl rfl ?_
        refine EW.move rfl rfl rfl rfl rfl rfl ?_
        refine EW.sliceSl_lo rfl rfl rfl rfl rfl rfl rfl (by omega) ?_
        refine EW.appendAny elL 0 (ys := out.drop j) hs rfl hcut (by show (0 + (out.drop j).length) * 32 ≤ 140737488355328; rw [List.length_drop]; omega) (.inl rfl) rfl rfl rfl rfl rfl rfl (by rw [List.length_drop]; rfl) ?_
        clear hs; intro v49 w hs; dsimp only [List.set, List.nil_append] at hs
        obtain ⟨A6, c6, rfl, _⟩ := own_sl (hs.res 0 rfl)
        have hs2 := hs.conv 1 rfl (R' := own elL (.slice A3 j c3) (out.take j)) (own_shrink (hs.res 1 rfl) j hj) (fun b hb => by cases A3 <;> exact hb)
        clear hs
        have hs := hs2
        clear hs2
        dsimp only [List.set] at hs
        have htl : (out.take j).length = j := by simp; omega
        have g2 : LDP Tryz.prog w 44 (ad.add ((k : Int).toNat * 2)) (encL x) := hld1 _ hs.keep
        refine EW.assign rfl rfl rfl rfl rfl rfl ?_
        refine EW.done ?_
        refine NW.seq ?_
        refine KW.seq ?_
        refine CW.regionD ((newS w0)) [(0, .q), (1, .q), (2, .q), (3, .q), (4, .q), (5, .q), (6, .q), (7, .l), (8, .l), (9, .q)] mixed (by kernel_rfl) ?_
        replace hs := hs.drew
        refine EW.move rfl rfl rfl rfl rfl rfl ?_
        refine EW.move rfl rfl rfl rfl rfl rfl ?_
        refine EW.sliceSl_hi rfl rfl rfl rfl rfl rfl rfl (by omega) ?_
        refine EW.move rfl rfl rfl rfl rfl rfl ?_
        refine EW.move rfl rfl rfl rfl rfl rfl ?_
        refine EW.indexAddr rfl rfl rfl rfl rfl rfl rfl (by omega) (by omega) ?_
        refine EW.loadP rfl rfl rfl rfl rfl rfl g2.drew (.inr (by rw [add_block]; show ¬ w0.heap.size ≤ _; omega)) ?_
        refine EW.lit1 elL (_) hs rfl rfl rfl rfl rfl rfl rfl ?_
        clear hs; intro b57 w hs
        refine EW.append1 elL 2 0 hs rfl rfl (by show ((out.take j).length + 1) * 32 ≤ 140737488355328; omega) (.inr (hs.newS 2 rfl)) rfl rfl rfl rfl rfl rfl rfl ?_
        clear hs; intro v58 w hs; dsimp only [List.set] at hs; replace hs := hs.tail
        refine EW.assign rfl rfl rfl rfl rfl rfl ?_
        refine EW.done ?_
        refine NW.seq ?_
        refine CW.region (S := noS) [(0, .q), (1, .q), (2, .l), (3, .q)] rfl ?_
        refine EW.move rfl rfl rfl rfl rfl rfl ?_
        refine EW.move rfl rfl rfl rfl rfl rfl ?_
        refine EW.appendAny elL 1 (ys := out.drop j) hs rfl (hs.sl 0 rfl) (by show ((out.take j ++ [x]).length + (out.drop j).length) * 32 ≤ 140737488355328; simp only [List.length_append, List.length_drop, List.length_singleton]; omega) (.inl rfl) rfl rfl rfl rfl rfl rfl rfl ?_
        clear hs; intro v61 w hs; dsimp only [List.set] at hs; replace hs := hs.tail
        refine EW.assign rfl rfl rfl rfl rfl rfl ?_
        refine EW.done ?_
        refine NW.blk ?_
        refine NW.seq ?_
        refine CW.region (S := noS) [(0, .q), (1, .q), (2, .q)] rfl ?_
        refine EW.move rfl rfl rfl rfl rfl rfl ?_
        refine EW.bin rfl rfl rfl rfl rfl rfl rfl (BV.add (wrap_i64 (by omega) (by omega))) ?_
        refine EW.assign rfl rfl rfl rfl rfl rfl ?_
        refine EW.done ?_
        refine NW.again ((k + 1, v61)) (by first | (dsimp only; omega) | omega | (simp; omega)) (by repeat (first | exact trivial | (refine ⟨by first | rfl | (congr 2; omega) | (simp; done) | (congr 1; simp; done), ?_⟩))) ?_
        try dsimp only
        refine ⟨by omega, ?_⟩
        rw [hstep, hins]
        simpa using hs
  · refine CW.cond_f rfl (by simpa using hlt) ?_
    refine KW.exit ?_
    refine XW.seq ?_
    refine XW.inv ?_
    refine XW.blk ?_
    refine NW.seq ?_
    refine KW.seq ?_
    refine CW.region (S := noS) [(0, .q), (1, .q)] rfl ?_
    refine EW.move rfl rfl rfl rfl rfl rfl ?_
    refine EW.assign rfl rfl rfl rfl rfl rfl ?_
    refine EW.done ?_
    refine NW.seq ?_
    refine KW.ret1 rfl rfl ?_
    refine ⟨_, rfl, hs.keep, ?_⟩
    have hk' : k = xs.length := by omega
    subst hk'
    have := hs.to_fresh 0 rfl
    rwa [List.take_length] at this
end Go.Cw.Tryz
set_option linter.unusedVariables false
namespace Go.Cw.Tryz
open Go.Proofs Go.Cw
attribute [local irreducible] Go.Addr.add

/-- An edge of the reference's graph. -/
abbrev Edg := Lab × Lab
def encE (x : Edg) : Value := .agg #[.string x.1.pkg, .string x.1.nm, .string x.2.pkg, .string x.2.nm]
def elE : El Tryz.prog Edg := {
  ty := 74
  size := 4
  bytes := 64
  enc := encE
  zero := .agg #[.string ByteArray.empty, .string ByteArray.empty, .string ByteArray.empty, .string ByteArray.empty]
  info := by kernel_rfl
  zsize := rfl
  pos := by decide
  posb := by decide
  cells := fun _ => rfl
  one := fun x u hu => by
    have : u = .string x.1.pkg ∨ u = .string x.1.nm ∨ u = .string x.2.pkg ∨ u = .string x.2.nm := by simpa [encE, Value.cells] using hu
    rcases this with rfl | rfl | rfl | rfl <;> rfl
  ld := fun w p x h => LD.many (cs := [.string x.1.pkg, .string x.1.nm, .string x.2.pkg, .string x.2.nm]) rfl h }
theorem fields74 : (Tryz.prog.fieldsOf 74).toList = [{ name := "A", type := 44, offset := 0, embedded := false, tag := "", pkgPath := "", byteOffset := 0 }, { name := "B", type := 44, offset := 2, embedded := false, tag := "", pkgPath := "", byteOffset := 32 }] := by kernel_rfl
theorem BVeq74 {a b : Edg} : BV Tryz.prog .eql 74 (encE a) (encE b) (.bool (decide (a = b))) := by
  have h : EqR Tryz.prog 9999 74 (encE a) (encE b) (decide (a.1 = b.1) && (decide (a.2 = b.2) && true)) :=
    EqR.struct (by kernel_rfl) fields74 (by kernel_rfl) (EqF.consA (cs := #[.string a.1.pkg, .string a.1.nm]) (ds := #[.string b.1.pkg, .string b.1.nm]) (by decide) rfl rfl (EqR44 9996 a.1 b.1) (EqF.consA (cs := #[.string a.2.pkg, .string a.2.nm]) (ds := #[.string b.2.pkg, .string b.2.nm]) (by decide) rfl rfl (EqR44 9996 a.2 b.2) EqF.nil))
  have e : (decide (a.1 = b.1) && (decide (a.2 = b.2) && true)) = decide (a = b) := by
    obtain ⟨p, q⟩ := a
    obtain ⟨p', q'⟩ := b
    simp
  rw [← e]; exact BV.eqAgg (by kernel_rfl) h
theorem build74 (a b : Lab) : ∀ w, (Instr.build 74 [(0, encL a), (1, encL b)].toArray).run Tryz.prog w = .ok (encE (a, b)) w := fun w => by kernel_rfl

/-- The reference's graph. -/
structure RG where
  N : List Lab
  E : List Edg
structure RG.Sm (g : RG) (k : Nat) : Prop where
  n : g.N.length ≤ k
  e : g.E.length ≤ k
  nm : ∀ a ∈ g.N, Cw.Sm a
  em : ∀ x ∈ g.E, Cw.Sm x.1 ∧ Cw.Sm x.2
def rgR (b : Nat) (vN vE : Value) (g : RG) : List Res := [pt b (.cells #[vN, vE] 41), own elL vN g.N, own elE vE g.E]
def RG.node (g : RG) (a : Lab) : RG := if a ∈ g.N then g else { g with N := g.N ++ [a] }
def RG.edge (g : RG) (a b : Lab) : RG := let h := (g.node a).node b; if (a, b) ∈ h.E then h else { h with E := h.E ++ [(a, b)] }

theorem RNode_spec (w0 : World) (b : Nat) (vN vE : Value) (g : RG) (a : Lab) (hs : St w0 (fpU (rgR b vN vE g)) w0 (rgR b vN vE g)) (hsm : g.Sm 1000) :
    T3 Tryz.prog 27 [.pointer (some ⟨b, 0, none⟩), encL a] w0 (rgR b vN vE g) fun v w' H' => ∃ vN', H' = rgR b vN' vE (g.node a) := by
  refine KW.enterT3 (n := 21) Tryz.func27 rfl rfl rfl ?_
  have hs0 := hs
  unfold rgR at hs
  obtain ⟨A1, c1, rfl, _⟩ := own_sl (hs.res 1 rfl)
  have hn := hsm.n
  refine KW.seq ?_
  refine CW.region (S := noS) [(0, .l)] rfl ?_
  refine EW.box hs rfl rfl rfl rfl rfl rfl ?_
  clear hs; intro b3 w hs
  refine EW.done ?_
  refine NW.seq ?_
  refine KW.seq ?_
  refine CW.regionD (noS) [(0, .q), (1, .q), (2, .q), (3, .q), (4, .q), (5, .l), (6, .q)] mixed (by kernel_rfl) ?_
  replace hs := hs.drew
  refine EW.move rfl rfl rfl rfl rfl rfl ?_
  refine EW.nilCheck rfl rfl rfl rfl rfl rfl ?_
  first | refine EW.fieldAddr rfl rfl rfl rfl rfl rfl ?_ | refine EW.fieldAddrA rfl rfl rfl rfl rfl rfl ?_
  refine EW.loadP rfl rfl rfl rfl rfl rfl (by first | assumption | (apply LDP.drew; assumption) | exact St.ld1 hs 0 rfl rfl | exact St.ldA hs 0 rfl rfl rfl | exact St.ld1 hs 1 rfl rfl | exact St.ldA hs 1 rfl rfl rfl | exact St.ld1 hs 2 rfl rfl | exact St.ldA hs 2 rfl rfl rfl | exact St.ld1 hs 3 rfl rfl | exact St.ldA hs 3 rfl rfl rfl | exact St.ld1 hs 4 rfl rfl | exact St.ldA hs 4 rfl rfl rfl | exact St.ld1 hs 5 rfl rfl | exact St.ldA hs 5 rfl rfl rfl | exact St.ld1 hs 6 rfl rfl | exact St.ldA hs 6 rfl rfl rfl) (by first | exact .inl rfl | exact .inr (fun h => h)) ?_
  refine EW.loadP rfl rfl rfl rfl rfl rfl (by first | assumption | (apply LDP.drew; assumption) | exact St.ld1 hs 0 rfl rfl | exact St.ldA hs 0 rfl rfl rfl | exact St.ld1 hs 1 rfl rfl | exact St.ldA hs 1 rfl rfl rfl | exact St.ld1 hs 2 rfl rfl | exact St.ldA hs 2 rfl rfl rfl | exact St.ld1 hs 3 rfl rfl | exact St.ldA hs 3 rfl rfl rfl | exact St.ld1 hs 4 rfl rfl | exact St.ldA hs 4 rfl rfl rfl | exact St.ld1 hs 5 rfl rfl | exact St.ldA hs 5 rfl rfl rfl | exact St.ld1 hs 6 rfl rfl | exact St.ldA hs 6 rfl rfl rfl) (by first | exact .inl rfl | exact .inr (fun h => h)) ?_
  have hsl := hs.sl 2 rfl
  refine EW.callT1 (In_spec _ _ _ _ _ (hs.sl 2 rfl) (by omega)) rfl rfl rfl rfl rfl Tryz.func22 bd22 nm22 rfl ?_
  intro v9 w hk9 hp9
  subst hp9
  replace hs := hs.stay hk9
  refine EW.not rfl rfl rfl rfl rfl rfl ?_
  refine EW.done ?_
  refine NW.seq ?_
  refine KW.cond rfl (fun h1 => ?_) (fun h1 => ?_)
  · skip
    have h1' : a ∉ g.N := by simpa using h1
    have hap := hs.apart 1 2 rfl rfl rfl b rfl
    refine CW.regionD ((own elL (.slice A1 g.N.length c1) g.N).fp) [(0, .q), (1, .q), (2, .q), (3, .q), (4, .q), (5, .q), (6, .l), (7, .l), (8, .q), (9, .q), (10, .b)] mixed (by kernel_rfl) ?_
    replace hs := hs.drew
    refine EW.move rfl rfl rfl rfl rfl rfl ?_
    refine EW.move rfl rfl rfl rfl rfl rfl ?_
    refine EW.nilCheck rfl rfl rfl rfl rfl rfl ?_
    first | refine EW.fieldAddr rfl rfl rfl rfl rfl rfl ?_ | refine EW.fieldAddrA rfl rfl rfl rfl rfl rfl ?_
    refine EW.loadP rfl rfl rfl rfl rfl rfl (hs.ld1 1 rfl rfl) (.inr hap) ?_
    refine EW.loadP rfl rfl rfl rfl rfl rfl (hs.ldA 0 rfl rfl rfl) (.inr (hs.apart 0 2 rfl rfl rfl b3 rfl)) ?_
    refine EW.lit1 elL (_) hs rfl rfl rfl rfl rfl rfl rfl ?_
    clear hs; intro b17 w hs
    refine EW.append1 elL 3 0 hs rfl rfl (by show (g.N.length + 1) * 32 ≤ 140737488355328; omega) (.inr (fun k hk => hk)) rfl rfl rfl rfl rfl rfl rfl ?_
    clear hs; intro v18 w hs; dsimp only [List.set] at hs; replace hs := hs.tail
    obtain ⟨A2, c2, rfl, _⟩ := own_sl (hs.res 2 rfl)
    refine EW.nilCheck rfl rfl rfl rfl rfl rfl ?_
    first | refine EW.fieldAddr rfl rfl rfl rfl rfl rfl ?_ | refine EW.fieldAddrA rfl rfl rfl rfl rfl rfl ?_
    first | refine EW.storeB hs 0 rfl rfl rfl rfl rfl rfl rfl rfl rfl (by simp [Value.oneCell', Value.cells]) rfl ?_ | refine EW.storeB hs 1 rfl rfl rfl rfl rfl rfl rfl rfl rfl (by simp [Value.oneCell', Value.cells]) rfl ?_ | refine EW.storeB hs 2 rfl rfl rfl rfl rfl rfl rfl rfl rfl (by simp [Value.oneCell', Value.cells]) rfl ?_ | refine EW.storeB hs 3 rfl rfl rfl rfl rfl rfl rfl rfl rfl (by simp [Value.oneCell', Value.cells]) rfl ?_ | refine EW.storeB hs 4 rfl rfl rfl rfl rfl rfl rfl rfl rfl (by simp [Value.oneCell', Value.cells]) rfl ?_ | refine EW.storeB hs 5 rfl rfl rfl rfl rfl rfl rfl rfl rfl (by simp [Value.oneCell', Value.cells]) rfl ?_ | refine EW.storeB hs 6 rfl rfl rfl rfl rfl rfl rfl rfl rfl (by simp [Value.oneCell', Value.cells]) rfl ?_
    clear hs; intro w hs; dsimp only [List.set, setAt] at hs
    refine EW.done ?_
    refine NW.end0 rfl ?_
    refine ⟨_, rfl, hs.keep, ?_⟩
    refine ⟨rgR b (.slice A2 (g.N ++ [a]).length c2) vE (g.node a), ?_, _, rfl⟩
    rw [RG.node, if_neg h1']
    exact hs.tail
  · skip
    have h1' : a ∈ g.N := by simpa using h1
    refine KW.skip ?_
    refine NW.end0 rfl ?_
    refine ⟨_, rfl, hs.keep, ?_⟩
    refine ⟨rgR b (.slice A1 g.N.length c1) vE (g.node a), ?_, _, rfl⟩
    rw [RG.node, if_pos h1']
    exact hs.tail
end Go.Cw.Tryz
set_option linter.unusedVariables false
namespace Go.Cw.Tryz
open Go.Proofs Go.Cw
attribute [local irreducible] Go.Addr.add

theorem RG.node_sm {g : RG} {a : Lab} {k : Nat} (h : g.Sm k) (ha : Cw.Sm a) : (g.node a).Sm (k + 1) := by
  unfold RG.node
  split
  · exact ⟨Nat.le_succ_of_le h.n, Nat.le_succ_of_le h.e, h.nm, h.em⟩
  · exact ⟨by simp [h.n], Nat.le_succ_of_le h.e, fun x hx => by
      simp only [List.mem_append, List.mem_singleton] at hx
      rcases hx with hx | rfl
      · exact h.nm x hx
      · exact ha, h.em⟩
theorem RG.node_E (g : RG) (a : Lab) : (g.node a).E = g.E := by unfold RG.node; split <;> rfl
theorem RG.Sm.mono {g : RG} {k l : Nat} (h : g.Sm k) (hl : k ≤ l) : g.Sm l := ⟨Nat.le_trans h.n hl, Nat.le_trans h.e hl, h.nm, h.em⟩

theorem REdge_spec (w0 : World) (b : Nat) (vN vE : Value) (g : RG) (x y : Lab) (hs : St w0 (fpU (rgR b vN vE g)) w0 (rgR b vN vE g)) (hsm : g.Sm 900) (hx : Sm x) (hy : Sm y) :
    T3 Tryz.prog 28 [.pointer (some ⟨b, 0, none⟩), encL x, encL y] w0 (rgR b vN vE g) fun v w' H' => ∃ vN' vE', H' = rgR b vN' vE' (g.edge x y) := by
  refine KW.enterT3 (n := 45) Tryz.func28 rfl rfl rfl ?_
  have hsm1 := RG.node_sm hsm hx
  have hsm2 := RG.node_sm hsm1 hy
  have hE2 : ((g.node x).node y).E = g.E := by rw [RG.node_E, RG.node_E]
  simp only [rgR] at hs
  refine KW.seq ?_
  refine CW.region (S := noS) [(0, .l), (1, .l)] rfl ?_
  refine EW.box hs rfl rfl rfl rfl rfl rfl ?_
  clear hs; intro b4 w hs
  refine EW.box hs rfl rfl rfl rfl rfl rfl ?_
  clear hs; intro b5 w hs
  replace hs := hs.pick [2, 3, 4, 0, 1] (by decide)
  simp only [List.filterMap_cons, List.filterMap_nil, List.getElem?_cons_succ, List.getElem?_cons_zero] at hs
  refine EW.done ?_
  refine NW.seq ?_
  refine KW.seq ?_
  refine CW.region (S := noS) [(0, .q), (1, .q), (2, .l)] rfl ?_
  refine EW.move rfl rfl rfl rfl rfl rfl ?_
  refine EW.loadP rfl rfl rfl rfl rfl rfl (by first | assumption | (apply LDP.drew; assumption) | exact St.ld1 hs 0 rfl rfl | exact St.ldA hs 0 rfl rfl rfl | exact St.ld1 hs 1 rfl rfl | exact St.ldA hs 1 rfl rfl rfl | exact St.ld1 hs 2 rfl rfl | exact St.ldA hs 2 rfl rfl rfl | exact St.ld1 hs 3 rfl rfl | exact St.ldA hs 3 rfl rfl rfl | exact St.ld1 hs 4 rfl rfl | exact St.ldA hs 4 rfl rfl rfl | exact St.ld1 hs 5 rfl rfl | exact St.ldA hs 5 rfl rfl rfl | exact St.ld1 hs 6 rfl rfl | exact St.ldA hs 6 rfl rfl rfl) (by first | exact .inl rfl | exact .inr (fun h => h)) ?_
  refine EW.callT3 hs 3 (RNode_spec _ b _ _ g x (hs.sub 3) (hsm.mono (by omega))) rfl rfl rfl rfl rfl Tryz.func27 bd27 nm27 rfl (.inl rfl) ?_
  clear hs; intro v9 w H9 hs hst9 hp9
  obtain ⟨vN1, rfl⟩ := hp9
  simp only [rgR, List.cons_append, List.nil_append, List.drop_succ_cons, List.drop_zero] at hs
  refine EW.done ?_
  refine NW.seq ?_
  refine KW.seq ?_
  refine CW.region (S := noS) [(0, .q), (1, .q), (2, .l)] rfl ?_
  refine EW.move rfl rfl rfl rfl rfl rfl ?_
  refine EW.loadP rfl rfl rfl rfl rfl rfl (by first | assumption | (apply LDP.drew; assumption) | exact St.ld1 hs 0 rfl rfl | exact St.ldA hs 0 rfl rfl rfl | exact St.ld1 hs 1 rfl rfl | exact St.ldA hs 1 rfl rfl rfl | exact St.ld1 hs 2 rfl rfl | exact St.ldA hs 2 rfl rfl rfl | exact St.ld1 hs 3 rfl rfl | exact St.ldA hs 3 rfl rfl rfl | exact St.ld1 hs 4 rfl rfl | exact St.ldA hs 4 rfl rfl rfl | exact St.ld1 hs 5 rfl rfl | exact St.ldA hs 5 rfl rfl rfl | exact St.ld1 hs 6 rfl rfl | exact St.ldA hs 6 rfl rfl rfl) (by first | exact .inl rfl | exact .inr (fun h => h)) ?_
  refine EW.callT3 hs 3 (RNode_spec _ b _ _ (g.node x) y (hs.sub 3) (hsm1.mono (by omega))) rfl rfl rfl rfl rfl Tryz.func27 bd27 nm27 rfl (.inl rfl) ?_
  clear hs; intro v12 w H12 hs hst12 hp12
  obtain ⟨vN2, rfl⟩ := hp12
  simp only [rgR, List.cons_append, List.nil_append, List.drop_succ_cons, List.drop_zero] at hs
  refine EW.done ?_
  refine NW.seq ?_
  refine KW.seq ?_
  refine KW.seq ?_
  refine CW.region (S := noS) [(0, .q)] rfl ?_
  refine EW.assign rfl rfl rfl rfl rfl rfl ?_
  refine EW.done ?_
  refine NW.seq ?_
  refine KW.block ?_
  rw [hE2] at hs
  obtain ⟨A1, c1, rfl, _⟩ := own_sl (hs.res 2 rfl)
  have hel := hsm.e
  refine KW.loop (ι := Nat) (fun k => g.E.length - k) (fun k => [(0, .pointer (some ⟨b, 0, none⟩)), (4, .pointer (some ⟨b4, 0, none⟩)), (5, .pointer (some ⟨b5, 0, none⟩)), (6, .int .i64 (k : Int))]) (fun k w => k ≤ g.E.length ∧ (∀ e ∈ g.E.take k, e ≠ (x, y)) ∧ St w0 (fpU (rgR b vN (.slice A1 g.E.length c1) g)) w [pt b (.cells #[vN2, .slice A1 g.E.length c1] 41), own elL vN2 ((g.node x).node y).N, own elE (.slice A1 g.E.length c1) g.E, pt b5 (.cells (encL y).cells 44), pt b4 (.cells (encL x).cells 44)]) 0 (by repeat (first | exact trivial | (refine ⟨by first | rfl | (congr 2; omega) | (simp; done) | (congr 1; simp; done), ?_⟩))) ?_ ?_
  · exact ⟨Nat.zero_le _, by simp, hs⟩
  clear hs
  rintro k w ⟨hk, hne, hs⟩
  refine KW.seq ?_
  refine KW.seq ?_
  refine CW.region (S := noS) [(0, .q), (1, .q), (2, .q), (3, .q), (4, .q), (5, .q), (6, .q)] rfl ?_
  refine EW.move rfl rfl rfl rfl rfl rfl ?_
  refine EW.move rfl rfl rfl rfl rfl rfl ?_
  refine EW.nilCheck rfl rfl rfl rfl rfl rfl ?_
  first | refine EW.fieldAddr rfl rfl rfl rfl rfl rfl ?_ | refine EW.fieldAddrA rfl rfl rfl rfl rfl rfl ?_
  refine EW.loadP rfl rfl rfl rfl rfl rfl (by first | assumption | (apply LDP.drew; assumption) | exact St.ld1 hs 0 rfl rfl | exact St.ldA hs 0 rfl rfl rfl | exact St.ld1 hs 1 rfl rfl | exact St.ldA hs 1 rfl rfl rfl | exact St.ld1 hs 2 rfl rfl | exact St.ldA hs 2 rfl rfl rfl | exact St.ld1 hs 3 rfl rfl | exact St.ldA hs 3 rfl rfl rfl | exact St.ld1 hs 4 rfl rfl | exact St.ldA hs 4 rfl rfl rfl | exact St.ld1 hs 5 rfl rfl | exact St.ldA hs 5 rfl rfl rfl | exact St.ld1 hs 6 rfl rfl | exact St.ldA hs 6 rfl rfl rfl) (by first | exact .inl rfl | exact .inr (fun h => h)) ?_
  refine EW.len rfl rfl rfl rfl rfl rfl ?_
  refine EW.bin rfl rfl rfl rfl rfl rfl rfl BV.lss ?_
  refine EW.done ?_
  refine NW.seq ?_
  by_cases hlt : k < g.E.length
  · refine CW.cond_t rfl (by simpa using hlt) ?_
    obtain ⟨a1, rfl, _, hld⟩ := (hs.sl 2 rfl).at_ hlt
    have g1 : LDP Tryz.prog w 74 (a1.add ((k : Int).toNat * 4)) (encE g.E[k]) := hld k g.E[k] (by simp)
    refine KW.skip ?_
    refine NW.seq ?_
    refine KW.seq ?_
    refine KW.block ?_
    refine KW.seq ?_
    refine CW.regionD (noS) [(0, .q), (1, .q), (2, .q), (3, .q), (4, .q), (5, .q), (6, .q), (7, .q), (8, .q), (9, .q), (10, .q)] mixed (by kernel_rfl) ?_
    replace hs := hs.drew
    refine EW.move rfl rfl rfl rfl rfl rfl ?_
    refine EW.nilCheck rfl rfl rfl rfl rfl rfl ?_
    first | refine EW.fieldAddr rfl rfl rfl rfl rfl rfl ?_ | refine EW.fieldAddrA rfl rfl rfl rfl rfl rfl ?_
    refine EW.loadP rfl rfl rfl rfl rfl rfl (by first | assumption | (apply LDP.drew; assumption) | exact St.ld1 hs 0 rfl rfl | exact St.ldA hs 0 rfl rfl rfl | exact St.ld1 hs 1 rfl rfl | exact St.ldA hs 1 rfl rfl rfl | exact St.ld1 hs 2 rfl rfl | exact St.ldA hs 2 rfl rfl rfl | exact St.ld1 hs 3 rfl rfl | exact St.ldA hs 3 rfl rfl rfl | exact St.ld1 hs 4 rfl rfl | exact St.ldA hs 4 rfl rfl rfl | exact St.ld1 hs 5 rfl rfl | exact St.ldA hs 5 rfl rfl rfl | exact St.ld1 hs 6 rfl rfl | exact St.ldA hs 6 rfl rfl rfl) (by first | exact .inl rfl | exact .inr (fun h => h)) ?_
    refine EW.move rfl rfl rfl rfl rfl rfl ?_
    refine EW.indexAddr rfl rfl rfl rfl rfl rfl rfl (by omega) (by omega) ?_
    refine EW.loadP rfl rfl rfl rfl rfl rfl (by first | assumption | (apply LDP.drew; assumption) | exact St.ld1 hs 0 rfl rfl | exact St.ldA hs 0 rfl rfl rfl | exact St.ld1 hs 1 rfl rfl | exact St.ldA hs 1 rfl rfl rfl | exact St.ld1 hs 2 rfl rfl | exact St.ldA hs 2 rfl rfl rfl | exact St.ld1 hs 3 rfl rfl | exact St.ldA hs 3 rfl rfl rfl | exact St.ld1 hs 4 rfl rfl | exact St.ldA hs 4 rfl rfl rfl | exact St.ld1 hs 5 rfl rfl | exact St.ldA hs 5 rfl rfl rfl | exact St.ld1 hs 6 rfl rfl | exact St.ldA hs 6 rfl rfl rfl) (by first | exact .inl rfl | exact .inr (fun h => h)) ?_
    refine EW.loadP rfl rfl rfl rfl rfl rfl (by first | assumption | (apply LDP.drew; assumption) | exact St.ld1 hs 0 rfl rfl | exact St.ldA hs 0 rfl rfl rfl | exact St.ld1 hs 1 rfl rfl | exact St.ldA hs 1 rfl rfl rfl | exact St.ld1 hs 2 rfl rfl | exact St.ldA hs 2 rfl rfl rfl | exact St.ld1 hs 3 rfl rfl | exact St.ldA hs 3 rfl rfl rfl | exact St.ld1 hs 4 rfl rfl | exact St.ldA hs 4 rfl rfl rfl | exact St.ld1 hs 5 rfl rfl | exact St.ldA hs 5 rfl rfl rfl | exact St.ld1 hs 6 rfl rfl | exact St.ldA hs 6 rfl rfl rfl) (by first | exact .inl rfl | exact .inr (fun h => h)) ?_
    refine EW.loadP rfl rfl rfl rfl rfl rfl (by first | assumption | (apply LDP.drew; assumption) | exact St.ld1 hs 0 rfl rfl | exact St.ldA hs 0 rfl rfl rfl | exact St.ld1 hs 1 rfl rfl | exact St.ldA hs 1 rfl rfl rfl | exact St.ld1 hs 2 rfl rfl | exact St.ldA hs 2 rfl rfl rfl | exact St.ld1 hs 3 rfl rfl | exact St.ldA hs 3 rfl rfl rfl | exact St.ld1 hs 4 rfl rfl | exact St.ldA hs 4 rfl rfl rfl | exact St.ld1 hs 5 rfl rfl | exact St.ldA hs 5 rfl rfl rfl | exact St.ld1 hs 6 rfl rfl | exact St.ldA hs 6 rfl rfl rfl) (by first | exact .inl rfl | exact .inr (fun h => h)) ?_
    refine EW.build (α := Unit) (pv := [(0, encL x), (1, encL y)]) rfl rfl rfl rfl rfl rfl rfl (build74 x y) ?_
    refine EW.bin rfl rfl rfl rfl rfl rfl rfl (BVeq74) ?_
    refine EW.done ?_
    refine NW.seq ?_
    refine KW.cond rfl (fun heq => ?_) (fun heq => ?_)
    · skip
      refine KW.ret0 rfl ?_
      refine ⟨_, rfl, hs.keep, ?_⟩
      have h1 : g.E[k] = (x, y) := by simpa using heq
      have h2 : (x, y) ∈ g.E := by rw [← h1]; exact List.getElem_mem _
      have e : g.edge x y = (g.node x).node y := by
        show (if (x, y) ∈ ((g.node x).node y).E then _ else _) = _
        rw [if_pos (by rw [hE2]; exact h2)]
      refine ⟨rgR b vN2 (.slice (some a1) g.E.length c1) (g.edge x y), ?_, _, _, rfl⟩
      rw [e]
      simp only [rgR, hE2]
      exact hs.pick [0, 1, 2] (by decide)
    · skip
      refine KW.skip ?_
      refine NW.blk ?_
      refine NW.seq ?_
      refine CW.region (S := noS) [(0, .q), (1, .q), (2, .q)] rfl ?_
      refine EW.move rfl rfl rfl rfl rfl rfl ?_
      refine EW.bin rfl rfl rfl rfl rfl rfl rfl (BV.add (wrap_i64 (by omega) (by omega))) ?_
      refine EW.assign rfl rfl rfl rfl rfl rfl ?_
      refine EW.done ?_
      refine NW.again (k + 1) (by first | (dsimp only; omega) | omega | (simp; omega)) (by repeat (first | exact trivial | (refine ⟨by first | rfl | (congr 2; omega) | (simp; done) | (congr 1; simp; done), ?_⟩))) ?_
      try dsimp only
      refine ⟨hlt, fun e he => ?_, hs⟩
      rw [List.take_succ_eq_append_getElem hlt, List.mem_append] at he
      rcases he with h | h
      · exact hne e h
      · simp at h; subst h; simpa using heq
  · refine CW.cond_f rfl (by simpa using hlt) ?_
    have hk' : k = g.E.length := by omega
    rw [hk', List.take_length] at hne
    have hnot : (x, y) ∉ g.E := fun h => hne _ h rfl
    have p1 := hs.apart 0 2 rfl rfl rfl b rfl
    have p2 : ¬ (own elE (.slice A1 g.E.length c1) g.E).fp b5 := fun h => hs.apart 2 3 rfl rfl rfl b5 h rfl
    have p3 : ¬ (own elE (.slice A1 g.E.length c1) g.E).fp b4 := fun h => hs.apart 2 4 rfl rfl rfl b4 h rfl
    refine KW.exit ?_
    refine XW.seq ?_
    refine XW.inv ?_
    refine XW.blk ?_
    refine NW.seq ?_
    refine CW.regionD ((own elE (.slice A1 g.E.length c1) g.E).fp) [(0, .q), (1, .q), (2, .q), (3, .q), (4, .q), (5, .q), (6, .q), (7, .q), (8, .l), (9, .l), (10, .q), (11, .q), (12, .b)] mixed (by kernel_rfl) ?_
    replace hs := hs.drew
    refine EW.move rfl rfl rfl rfl rfl rfl ?_
    refine EW.move rfl rfl rfl rfl rfl rfl ?_
    refine EW.nilCheck rfl rfl rfl rfl rfl rfl ?_
    first | refine EW.fieldAddr rfl rfl rfl rfl rfl rfl ?_ | refine EW.fieldAddrA rfl rfl rfl rfl rfl rfl ?_
    refine EW.loadP rfl rfl rfl rfl rfl rfl (hs.ld1 0 rfl rfl) (.inr p1) ?_
    refine EW.loadP rfl rfl rfl rfl rfl rfl (hs.ldA 4 rfl rfl rfl) (.inr p3) ?_
    refine EW.loadP rfl rfl rfl rfl rfl rfl (hs.ldA 3 rfl rfl rfl) (.inr p2) ?_
    refine EW.build (α := Unit) (pv := [(0, encL x), (1, encL y)]) rfl rfl rfl rfl rfl rfl rfl (build74 x y) ?_
    refine EW.lit1 elE ((x, y)) hs rfl rfl rfl rfl rfl rfl rfl ?_
    clear hs; intro b41 w hs
    refine EW.append1 elE 3 0 hs rfl rfl (by show (g.E.length + 1) * 64 ≤ 140737488355328; omega) (.inr (fun k hk => hk)) rfl rfl rfl rfl rfl rfl rfl ?_
    clear hs; intro v42 w hs; dsimp only [List.set] at hs; replace hs := hs.tail
    obtain ⟨A2, c2, rfl, _⟩ := own_sl (hs.res 2 rfl)
    refine EW.nilCheck rfl rfl rfl rfl rfl rfl ?_
    first | refine EW.fieldAddr rfl rfl rfl rfl rfl rfl ?_ | refine EW.fieldAddrA rfl rfl rfl rfl rfl rfl ?_
    first | refine EW.storeB hs 0 rfl rfl rfl rfl rfl rfl rfl rfl rfl (by simp [Value.oneCell', Value.cells]) rfl ?_ | refine EW.storeB hs 1 rfl rfl rfl rfl rfl rfl rfl rfl rfl (by simp [Value.oneCell', Value.cells]) rfl ?_ | refine EW.storeB hs 2 rfl rfl rfl rfl rfl rfl rfl rfl rfl (by simp [Value.oneCell', Value.cells]) rfl ?_ | refine EW.storeB hs 3 rfl rfl rfl rfl rfl rfl rfl rfl rfl (by simp [Value.oneCell', Value.cells]) rfl ?_ | refine EW.storeB hs 4 rfl rfl rfl rfl rfl rfl rfl rfl rfl (by simp [Value.oneCell', Value.cells]) rfl ?_ | refine EW.storeB hs 5 rfl rfl rfl rfl rfl rfl rfl rfl rfl (by simp [Value.oneCell', Value.cells]) rfl ?_ | refine EW.storeB hs 6 rfl rfl rfl rfl rfl rfl rfl rfl rfl (by simp [Value.oneCell', Value.cells]) rfl ?_
    clear hs; intro w hs; dsimp only [List.set, setAt] at hs
    refine EW.done ?_
    refine NW.end0 rfl ?_
    refine ⟨_, rfl, hs.keep, ?_⟩
    have e : g.edge x y = { (g.node x).node y with E := g.E ++ [(x, y)] } := by
      show (if (x, y) ∈ ((g.node x).node y).E then _ else _) = _
      rw [if_neg (by rw [hE2]; exact hnot), hE2]
    refine ⟨rgR b vN2 (.slice A2 (g.E ++ [(x, y)]).length c2) (g.edge x y), ?_, _, _, rfl⟩
    rw [e]
    simp only [rgR]
    exact hs.pick [0, 1, 2] (by decide)
end Go.Cw.Tryz
set_option linter.unusedVariables false
namespace Go.Cw.Tryz
open Go.Proofs Go.Cw
attribute [local irreducible] Go.Addr.add

/-- The reference's graph, read. -/
structure RGA (w : World) (b : Nat) (AN : Option Addr) (cN : Nat) (AE : Option Addr) (cE : Nat) (g : RG) : Prop where
  blk : w.heap[b]? = some (.cells #[.slice AN g.N.length cN, .slice AE g.E.length cE] 41)
  n : SlA elL w AN g.N
  e : SlA elE w AE g.E
theorem RGA.stay {w w' : World} {b : Nat} {AN : Option Addr} {cN : Nat} {AE : Option Addr} {cE : Nat} {g : RG} (h : RGA w b AN cN AE cE g) (hk : Keep noS w w') : RGA w' b AN cN AE cE g :=
  ⟨(hk.block b (Array.getElem?_eq_some_iff.1 h.blk).1 (fun x => x)).trans h.blk, h.n.stay hk, h.e.stay hk⟩
theorem RGA.ldN {w0 w : World} {b : Nat} {AN : Option Addr} {cN : Nat} {AE : Option Addr} {cE : Nat} {g : RG} (h : RGA w0 b AN cN AE cE g) (hk : Keep noS w0 w) : LDP Tryz.prog w 30 ⟨b, 0, none⟩ (.slice AN g.N.length cN) :=
  LDP.pt1 (h.stay hk).blk rfl
theorem RGA.ldE {w0 w : World} {b : Nat} {AN : Option Addr} {cN : Nat} {AE : Option Addr} {cE : Nat} {g : RG} (h : RGA w0 b AN cN AE cE g) (hk : Keep noS w0 w) : LDP Tryz.prog w 39 ⟨b, 1, none⟩ (.slice AE g.E.length cE) :=
  LDP.pt1 (h.stay hk).blk rfl
theorem RGA.ld1 {w0 w : World} {b : Nat} {AN : Option Addr} {cN : Nat} {ae : Addr} {cE : Nat} {g : RG} (h : RGA w0 b AN cN (some ae) cE g) (hk : Keep noS w0 w) {k : Nat} {x : Edg} (hx : g.E[k]? = some x) : LDP Tryz.prog w 44 ((ae.add ((k : Int).toNat * 4)).add 0) (encL x.1) :=
  (h.stay hk).e.at_part (E' := elL) hx 0 x.1 (fun j u hu => by
    have : j < 2 := (List.getElem?_eq_some_iff.1 hu).1
    match j, this with
    | 0, _ => exact hu
    | 1, _ => exact hu) rfl
theorem RGA.ld2 {w0 w : World} {b : Nat} {AN : Option Addr} {cN : Nat} {ae : Addr} {cE : Nat} {g : RG} (h : RGA w0 b AN cN (some ae) cE g) (hk : Keep noS w0 w) {k : Nat} {x : Edg} (hx : g.E[k]? = some x) : LDP Tryz.prog w 44 ((ae.add ((k : Int).toNat * 4)).add 2) (encL x.2) :=
  (h.stay hk).e.at_part (E' := elL) hx 2 x.2 (fun j u hu => by
    have : j < 2 := (List.getElem?_eq_some_iff.1 hu).1
    match j, this with
    | 0, _ => exact hu
    | 1, _ => exact hu) rfl
theorem RGA.some_ {w : World} {b : Nat} {AN : Option Addr} {cN : Nat} {AE : Option Addr} {cE : Nat} {g : RG} (h : RGA w b AN cN AE cE g) {k : Nat} (hk : k < g.E.length) : ∃ ae, AE = some ae := by
  obtain ⟨ae, h1, _⟩ := h.e.at_ hk
  exact ⟨ae, h1⟩

def outOf (E : List Edg) (a : Lab) : List Lab := (E.filter (fun e => decide (e.1 = a))).map (·.2)
theorem outOf_snoc (E : List Edg) (e : Edg) (a : Lab) : outOf (E ++ [e]) a = if e.1 = a then outOf E a ++ [e.2] else outOf E a := by
  unfold outOf
  rw [List.filter_append, List.map_append]
  by_cases h : e.1 = a <;> simp [h]
theorem outOf_len (E : List Edg) (a : Lab) : (outOf E a).length ≤ E.length := by
  unfold outOf; rw [List.length_map]; exact List.length_filter_le _ _
theorem outOf_mem (E : List Edg) (a b : Lab) : b ∈ outOf E a ↔ (a, b) ∈ E := by
  unfold outOf
  simp only [List.mem_map, List.mem_filter, decide_eq_true_eq]
  constructor
  · rintro ⟨⟨p, q⟩, ⟨h1, h2⟩, h3⟩
    simp only at h2 h3
    subst h2; subst h3; exact h1
  · intro h; exact ⟨(a, b), ⟨h, rfl⟩, rfl⟩

theorem ROut_spec (w0 : World) (b : Nat) (AN : Option Addr) (cN : Nat) (AE : Option Addr) (cE : Nat) (g : RG) (a : Lab) (hg : RGA w0 b AN cN AE cE g) (hsm : g.Sm 1000) :
    T1 Tryz.prog 17 [.pointer (some ⟨b, 0, none⟩), encL a] w0 fun v w' => Fresh elL w0 w' v (risingL (outOf g.E a)) := by
  refine KW.enterT1 (n := 39) Tryz.func17 rfl rfl rfl ?_
  have hs := St.init w0 noS
  have hgE : ∀ w, Keep noS w0 w → _ := fun w hk => hg.ldE hk
  have hel := hsm.e
  refine KW.seq ?_
  refine CW.region (S := noS) [(0, .l), (1, .q)] rfl ?_
  refine EW.box hs rfl rfl rfl rfl rfl rfl ?_
  clear hs; intro b3 w hs
  refine EW.assign rfl rfl rfl rfl rfl rfl ?_
  refine EW.done ?_
  refine NW.seq ?_
  refine KW.seq ?_
  refine CW.region (S := noS) [(0, .q)] rfl ?_
  refine EW.assign rfl rfl rfl rfl rfl rfl ?_
  refine EW.done ?_
  refine NW.seq ?_
  refine KW.seq ?_
  refine KW.seq ?_
  refine CW.region (S := noS) [(0, .q)] rfl ?_
  refine EW.assign rfl rfl rfl rfl rfl rfl ?_
  refine EW.done ?_
  refine NW.seq ?_
  refine KW.block ?_
  replace hs := hs.nil elL
  refine KW.loop (ι := Nat × Value) (fun i => g.E.length - i.1) (fun i => [(0, .pointer (some ⟨b, 0, none⟩)), (3, .pointer (some ⟨b3, 0, none⟩)), (5, i.2), (6, .int .i64 (i.1 : Int))]) (fun i w => i.1 ≤ g.E.length ∧ St w0 noS w [own elL i.2 (outOf (g.E.take i.1) a), pt b3 (.cells (encL a).cells 44)]) (0, .slice none 0 0) (by repeat (first | exact trivial | (refine ⟨by first | rfl | (congr 2; omega) | (simp; done) | (congr 1; simp; done), ?_⟩))) ?_ ?_
  · exact ⟨Nat.zero_le _, hs⟩
  clear hs
  rintro ⟨k, v⟩ w ⟨hk, hs⟩
  dsimp only at hk hs
  refine KW.seq ?_
  refine KW.seq ?_
  refine CW.region (S := noS) [(0, .q), (1, .q), (2, .q), (3, .q), (4, .q), (5, .q), (6, .q)] rfl ?_
  refine EW.move rfl rfl rfl rfl rfl rfl ?_
  refine EW.move rfl rfl rfl rfl rfl rfl ?_
  refine EW.nilCheck rfl rfl rfl rfl rfl rfl ?_
  first | refine EW.fieldAddr rfl rfl rfl rfl rfl rfl ?_ | refine EW.fieldAddrA rfl rfl rfl rfl rfl rfl ?_
  refine EW.loadP rfl rfl rfl rfl rfl rfl (by first | with_reducible exact hgE _ hs.keep | assumption | (apply LDP.drew; assumption) | exact St.ld1 hs 0 rfl rfl | exact St.ldA hs 0 rfl rfl rfl | exact St.ld1 hs 1 rfl rfl | exact St.ldA hs 1 rfl rfl rfl | exact St.ld1 hs 2 rfl rfl | exact St.ldA hs 2 rfl rfl rfl | exact St.ld1 hs 3 rfl rfl | exact St.ldA hs 3 rfl rfl rfl | exact St.ld1 hs 4 rfl rfl | exact St.ldA hs 4 rfl rfl rfl | exact St.ld1 hs 5 rfl rfl | exact St.ldA hs 5 rfl rfl rfl | exact St.ld1 hs 6 rfl rfl | exact St.ldA hs 6 rfl rfl rfl) (by first | exact .inl rfl | exact .inr (fun h => h)) ?_
  refine EW.len rfl rfl rfl rfl rfl rfl ?_
  refine EW.bin rfl rfl rfl rfl rfl rfl rfl BV.lss ?_
  refine EW.done ?_
  refine NW.seq ?_
  by_cases hlt : k < g.E.length
  · refine CW.cond_t rfl (by simpa using hlt) ?_
    obtain ⟨ae, rfl⟩ := hg.some_ hlt
    have hxk : g.E[k]? = some g.E[k] := by simp
    have h1 : ∀ w, Keep noS w0 w → _ := fun w hk => hg.ld1 hk hxk
    have h2 : ∀ w, Keep noS w0 w → _ := fun w hk => hg.ld2 hk hxk
    have hstep : outOf (g.E.take (k + 1)) a = if g.E[k].1 = a then outOf (g.E.take k) a ++ [g.E[k].2] else outOf (g.E.take k) a := by
      rw [List.take_succ_eq_append_getElem hlt, outOf_snoc]
    have hlen : (outOf (g.E.take k) a).length ≤ k := Nat.le_trans (outOf_len _ _) (by simp; omega)
    refine KW.skip ?_
    refine NW.seq ?_
    refine KW.seq ?_
    refine KW.block ?_
    refine KW.seq ?_
    refine CW.regionD (noS) [(0, .q), (1, .q), (2, .q), (3, .q), (4, .q), (5, .q), (6, .q), (7, .q), (8, .q), (9, .q)] mixed (by kernel_rfl) ?_
    replace hs := hs.drew
    refine EW.move rfl rfl rfl rfl rfl rfl ?_
    refine EW.nilCheck rfl rfl rfl rfl rfl rfl ?_
    first | refine EW.fieldAddr rfl rfl rfl rfl rfl rfl ?_ | refine EW.fieldAddrA rfl rfl rfl rfl rfl rfl ?_
    refine EW.loadP rfl rfl rfl rfl rfl rfl (by first | with_reducible exact hgE _ hs.keep | with_reducible exact h1 _ hs.keep | with_reducible exact h2 _ hs.keep | assumption | (apply LDP.drew; assumption) | exact St.ld1 hs 0 rfl rfl | exact St.ldA hs 0 rfl rfl rfl | exact St.ld1 hs 1 rfl rfl | exact St.ldA hs 1 rfl rfl rfl | exact St.ld1 hs 2 rfl rfl | exact St.ldA hs 2 rfl rfl rfl | exact St.ld1 hs 3 rfl rfl | exact St.ldA hs 3 rfl rfl rfl | exact St.ld1 hs 4 rfl rfl | exact St.ldA hs 4 rfl rfl rfl | exact St.ld1 hs 5 rfl rfl | exact St.ldA hs 5 rfl rfl rfl | exact St.ld1 hs 6 rfl rfl | exact St.ldA hs 6 rfl rfl rfl) (by first | exact .inl rfl | exact .inr (fun h => h)) ?_
    refine EW.move rfl rfl rfl rfl rfl rfl ?_
    refine EW.indexAddr rfl rfl rfl rfl rfl rfl rfl (by omega) (by omega) ?_
    first | refine EW.fieldAddr rfl rfl rfl rfl rfl rfl ?_ | refine EW.fieldAddrA rfl rfl rfl rfl rfl rfl ?_
    refine EW.loadP rfl rfl rfl rfl rfl rfl (by first | with_reducible exact hgE _ hs.keep | with_reducible exact h1 _ hs.keep | with_reducible exact h2 _ hs.keep | assumption | (apply LDP.drew; assumption) | exact St.ld1 hs 0 rfl rfl | exact St.ldA hs 0 rfl rfl rfl | exact St.ld1 hs 1 rfl rfl | exact St.ldA hs 1 rfl rfl rfl | exact St.ld1 hs 2 rfl rfl | exact St.ldA hs 2 rfl rfl rfl | exact St.ld1 hs 3 rfl rfl | exact St.ldA hs 3 rfl rfl rfl | exact St.ld1 hs 4 rfl rfl | exact St.ldA hs 4 rfl rfl rfl | exact St.ld1 hs 5 rfl rfl | exact St.ldA hs 5 rfl rfl rfl | exact St.ld1 hs 6 rfl rfl | exact St.ldA hs 6 rfl rfl rfl) (by first | exact .inl rfl | exact .inr (fun h => h)) ?_
    refine EW.loadP rfl rfl rfl rfl rfl rfl (by first | with_reducible exact hgE _ hs.keep | with_reducible exact h1 _ hs.keep | with_reducible exact h2 _ hs.keep | assumption | (apply LDP.drew; assumption) | exact St.ld1 hs 0 rfl rfl | exact St.ldA hs 0 rfl rfl rfl | exact St.ld1 hs 1 rfl rfl | exact St.ldA hs 1 rfl rfl rfl | exact St.ld1 hs 2 rfl rfl | exact St.ldA hs 2 rfl rfl rfl | exact St.ld1 hs 3 rfl rfl | exact St.ldA hs 3 rfl rfl rfl | exact St.ld1 hs 4 rfl rfl | exact St.ldA hs 4 rfl rfl rfl | exact St.ld1 hs 5 rfl rfl | exact St.ldA hs 5 rfl rfl rfl | exact St.ld1 hs 6 rfl rfl | exact St.ldA hs 6 rfl rfl rfl) (by first | exact .inl rfl | exact .inr (fun h => h)) ?_
    refine EW.bin rfl rfl rfl rfl rfl rfl rfl (BVeq44) ?_
    refine EW.done ?_
    refine NW.seq ?_
    refine KW.cond rfl (fun heq => ?_) (fun heq => ?_)
    · skip
      have heq' : g.E[k].1 = a := by simpa using heq
      refine CW.region (S := noS) [(0, .q), (1, .q), (2, .q), (3, .q), (4, .q), (5, .q), (6, .q), (7, .q), (8, .q), (9, .l), (10, .l), (11, .q)] rfl ?_
      refine EW.move rfl rfl rfl rfl rfl rfl ?_
      refine EW.move rfl rfl rfl rfl rfl rfl ?_
      refine EW.nilCheck rfl rfl rfl rfl rfl rfl ?_
      first | refine EW.fieldAddr rfl rfl rfl rfl rfl rfl ?_ | refine EW.fieldAddrA rfl rfl rfl rfl rfl rfl ?_
      refine EW.loadP rfl rfl rfl rfl rfl rfl (by first | with_reducible exact hgE _ hs.keep | with_reducible exact h1 _ hs.keep | with_reducible exact h2 _ hs.keep | assumption | (apply LDP.drew; assumption) | exact St.ld1 hs 0 rfl rfl | exact St.ldA hs 0 rfl rfl rfl | exact St.ld1 hs 1 rfl rfl | exact St.ldA hs 1 rfl rfl rfl | exact St.ld1 hs 2 rfl rfl | exact St.ldA hs 2 rfl rfl rfl | exact St.ld1 hs 3 rfl rfl | exact St.ldA hs 3 rfl rfl rfl | exact St.ld1 hs 4 rfl rfl | exact St.ldA hs 4 rfl rfl rfl | exact St.ld1 hs 5 rfl rfl | exact St.ldA hs 5 rfl rfl rfl | exact St.ld1 hs 6 rfl rfl | exact St.ldA hs 6 rfl rfl rfl) (by first | exact .inl rfl | exact .inr (fun h => h)) ?_
      refine EW.move rfl rfl rfl rfl rfl rfl ?_
      refine EW.indexAddr rfl rfl rfl rfl rfl rfl rfl (by omega) (by omega) ?_
      first | refine EW.fieldAddr rfl rfl rfl rfl rfl rfl ?_ | refine EW.fieldAddrA rfl rfl rfl rfl rfl rfl ?_
      refine EW.loadP rfl rfl rfl rfl rfl rfl (by first | with_reducible exact hgE _ hs.keep | with_reducible exact h1 _ hs.keep | with_reducible exact h2 _ hs.keep | assumption | (apply LDP.drew; assumption) | exact St.ld1 hs 0 rfl rfl | exact St.ldA hs 0 rfl rfl rfl | exact St.ld1 hs 1 rfl rfl | exact St.ldA hs 1 rfl rfl rfl | exact St.ld1 hs 2 rfl rfl | exact St.ldA hs 2 rfl rfl rfl | exact St.ld1 hs 3 rfl rfl | exact St.ldA hs 3 rfl rfl rfl | exact St.ld1 hs 4 rfl rfl | exact St.ldA hs 4 rfl rfl rfl | exact St.ld1 hs 5 rfl rfl | exact St.ldA hs 5 rfl rfl rfl | exact St.ld1 hs 6 rfl rfl | exact St.ldA hs 6 rfl rfl rfl) (by first | exact .inl rfl | exact .inr (fun h => h)) ?_
      refine EW.lit1 elL (_) hs rfl rfl rfl rfl rfl rfl rfl ?_
      clear hs; intro b35 w hs
      first | refine EW.append1 elL 1 0 hs rfl rfl (by show _ * 32 ≤ 140737488355328; omega) (.inl rfl) rfl rfl rfl rfl rfl rfl rfl ?_ | refine EW.append1 elL 2 0 hs rfl rfl (by show _ * 32 ≤ 140737488355328; omega) (.inl rfl) rfl rfl rfl rfl rfl rfl rfl ?_ | refine EW.append1 elL 3 0 hs rfl rfl (by show _ * 32 ≤ 140737488355328; omega) (.inl rfl) rfl rfl rfl rfl rfl rfl rfl ?_ | refine EW.append1 elL 4 0 hs rfl rfl (by show _ * 32 ≤ 140737488355328; omega) (.inl rfl) rfl rfl rfl rfl rfl rfl rfl ?_ | refine EW.append1 elL 5 0 hs rfl rfl (by show _ * 32 ≤ 140737488355328; omega) (.inl rfl) rfl rfl rfl rfl rfl rfl rfl ?_ | refine EW.append1 elL 6 0 hs rfl rfl (by show _ * 32 ≤ 140737488355328; omega) (.inl rfl) rfl rfl rfl rfl rfl rfl rfl ?_ | refine EW.append1 elL 7 0 hs rfl rfl (by show _ * 32 ≤ 140737488355328; omega) (.inl rfl) rfl rfl rfl rfl rfl rfl rfl ?_
      clear hs; intro v36 w hs; dsimp only [List.set] at hs; replace hs := hs.tail
      refine EW.assign rfl rfl rfl rfl rfl rfl ?_
      refine EW.done ?_
      refine NW.blk ?_
      refine NW.seq ?_
      refine CW.region (S := noS) [(0, .q), (1, .q), (2, .q)] rfl ?_
      refine EW.move rfl rfl rfl rfl rfl rfl ?_
      refine EW.bin rfl rfl rfl rfl rfl rfl rfl (BV.add (wrap_i64 (by omega) (by omega))) ?_
      refine EW.assign rfl rfl rfl rfl rfl rfl ?_
      refine EW.done ?_
      refine NW.again ((k + 1, v36)) (by first | (dsimp only; omega) | omega | (simp; omega)) (by repeat (first | exact trivial | (refine ⟨by first | rfl | (congr 2; omega) | (simp; done) | (congr 1; simp; done), ?_⟩))) ?_
      try dsimp only
      refine ⟨hlt, ?_⟩
      rw [hstep, if_pos heq']; exact hs
    · skip
      have heq' : ¬ g.E[k].1 = a := by simpa using heq
      refine KW.skip ?_
      refine NW.blk ?_
      refine NW.seq ?_
      refine CW.region (S := noS) [(0, .q), (1, .q), (2, .q)] rfl ?_
      refine EW.move rfl rfl rfl rfl rfl rfl ?_
      refine EW.bin rfl rfl rfl rfl rfl rfl rfl (BV.add (wrap_i64 (by omega) (by omega))) ?_
      refine EW.assign rfl rfl rfl rfl rfl rfl ?_
      refine EW.done ?_
      refine NW.again ((k + 1, v)) (by first | (dsimp only; omega) | omega | (simp; omega)) (by repeat (first | exact trivial | (refine ⟨by first | rfl | (congr 2; omega) | (simp; done) | (congr 1; simp; done), ?_⟩))) ?_
      try dsimp only
      refine ⟨hlt, ?_⟩
      rw [hstep, if_neg heq']; exact hs
  · refine CW.cond_f rfl (by simpa using hlt) ?_
    have hk' : k = g.E.length := by omega
    subst hk'
    rw [List.take_length] at hs
    obtain ⟨A5, c5, rfl, hsl5, _⟩ := own_sl (hs.res 0 rfl)
    have hl5 := outOf_len g.E a
    refine KW.exit ?_
    refine XW.seq ?_
    refine XW.inv ?_
    refine XW.blk ?_
    refine NW.seq ?_
    refine KW.seq ?_
    refine CW.region (S := noS) [(0, .q), (1, .l), (2, .q)] rfl ?_
    refine EW.move rfl rfl rfl rfl rfl rfl ?_
    refine EW.callT1 (Rising_spec _ _ _ _ (hs.sl 0 rfl) (by omega) (fun x hx => (hsm.em _ ((outOf_mem _ _ _).1 hx)).2)) rfl rfl rfl rfl rfl Tryz.func15 bd15 nm15 rfl ?_
    intro v38 w hk38 hp38
    replace hs := hs.fresh hk38 hp38
    refine EW.assign rfl rfl rfl rfl rfl rfl ?_
    refine EW.done ?_
    refine NW.seq ?_
    refine KW.ret1 rfl rfl ?_
    refine ⟨_, rfl, hs.keep, ?_⟩
    exact hs.to_fresh 0 rfl
end Go.Cw.Tryz
set_option linter.unusedVariables false
namespace Go.Cw.Tryz
open Go.Proofs Go.Cw
attribute [local irreducible] Go.Addr.add

/-- What Reach answers. -/
def ReachPost (w0 : World) (g : RG) (fr : List Lab) (v : Value) (w' : World) : Prop :=
  ∃ ys, Fresh elL w0 w' v ys ∧ SortedL ys ∧ ∀ a, a ∈ ys ↔ Rch g.E (fun a => a ∈ fr ∧ a ∈ g.N) a
theorem Rch_sub {g : RG} {fr : List Lab} {a : Lab} (h : Rch g.E (fun a => a ∈ fr ∧ a ∈ g.N) a) : a ∈ g.N ++ g.E.map (·.2) := by
  cases h with
  | base a h => simp [h.2]
  | step a b _ he =>
    rw [List.mem_append]; right
    exact List.mem_map.2 ⟨(_, _), he, rfl⟩
theorem RG.Sm.all {g : RG} {k : Nat} (h : g.Sm k) {a : Lab} (ha : a ∈ g.N ++ g.E.map (·.2)) : Cw.Sm a := by
  rcases List.mem_append.1 ha with h1 | h1
  · exact h.nm a h1
  · obtain ⟨e, he, rfl⟩ := List.mem_map.1 h1
    exact (h.em e he).2

theorem RReach_spec (w0 : World) (b : Nat) (AN : Option Addr) (cN : Nat) (AE : Option Addr) (cE : Nat) (g : RG) (A : Option Addr) (c : Nat) (fr : List Lab) (hg : RGA w0 b AN cN AE cE g) (hsm : g.Sm 1000) (hfr : SlA elL w0 A fr) (hfl : fr.length ≤ 1048576) :
    T1 Tryz.prog 23 [.pointer (some ⟨b, 0, none⟩), .slice A fr.length c] w0 (ReachPost w0 g fr) := by
  refine KW.enterT1 (n := 94) Tryz.func23 rfl rfl rfl ?_
  have hs := St.init w0 noS
  have hgE : ∀ w, Keep noS w0 w → _ := fun w hk => hg.ldE hk
  have hgN : ∀ w, Keep noS w0 w → _ := fun w hk => hg.ldN hk
  have hel := hsm.e
  have hnl := hsm.n
  have hlen : ∀ got : List Lab, got.Nodup → (∀ a ∈ got, Rch g.E (fun a => a ∈ fr ∧ a ∈ g.N) a) → got.length ≤ 2000 := fun got h1 h2 => by
    have := nodup_sub_len got (g.N ++ g.E.map (·.2)) h1 (fun a ha => Rch_sub (h2 a ha))
    simp at this; omega
  refine KW.seq ?_
  refine CW.region (S := noS) [(0, .q)] rfl ?_
  refine EW.assign rfl rfl rfl rfl rfl rfl ?_
  refine EW.done ?_
  refine NW.seq ?_
  refine KW.seq ?_
  refine CW.region (S := noS) [(0, .q)] rfl ?_
  refine EW.assign rfl rfl rfl rfl rfl rfl ?_
  refine EW.done ?_
  refine NW.seq ?_
  replace hs := hs.nil elL
  refine KW.cut (ι := Value × List Lab) (fun i => [(0, .pointer (some ⟨b, 0, none⟩)), (5, i.1)]) (fun i w => i.2.Nodup ∧ (∀ a ∈ i.2, Rch g.E (fun a => a ∈ fr ∧ a ∈ g.N) a) ∧ (∀ a, a ∈ fr → a ∈ g.N → a ∈ i.2) ∧ St w0 noS w [own elL i.1 i.2]) ?_ ?_
  · skip
    refine KW.seq ?_
    refine CW.region (S := noS) [(0, .q)] rfl ?_
    refine EW.assign rfl rfl rfl rfl rfl rfl ?_
    refine EW.done ?_
    refine NW.seq ?_
    refine KW.block ?_
    refine KW.loop (ι := Nat × Value × List Lab) (fun i => fr.length - i.1) (fun i => [(0, .pointer (some ⟨b, 0, none⟩)), (1, .slice A fr.length c), (5, i.2.1), (6, .int .i64 (i.1 : Int))]) (fun i w => i.1 ≤ fr.length ∧ i.2.2.Nodup ∧ (∀ a ∈ i.2.2, Rch g.E (fun a => a ∈ fr ∧ a ∈ g.N) a) ∧ (∀ a, a ∈ fr.take i.1 → a ∈ g.N → a ∈ i.2.2) ∧ St w0 noS w [own elL i.2.1 i.2.2]) (0, .slice none 0 0, []) (by repeat (first | exact trivial | (refine ⟨by first | rfl | (congr 2; omega) | (simp; done) | (congr 1; simp; done), ?_⟩))) ?_ ?_
    · exact ⟨Nat.zero_le _, List.nodup_nil, by simp, by simp, hs⟩
    clear hs
    rintro ⟨k, v, got⟩ w ⟨hk, hnd, hin, hcov, hs⟩
    dsimp only at hk hnd hin hcov hs
    have hgl := hlen got hnd hin
    obtain ⟨A5, c5, rfl, _⟩ := own_sl (hs.res 0 rfl)
    refine KW.seq ?_
    refine KW.seq ?_
    refine CW.region (S := noS) [(0, .q), (1, .q), (2, .q), (3, .q)] rfl ?_
    refine EW.move rfl rfl rfl rfl rfl rfl ?_
    refine EW.move rfl rfl rfl rfl rfl rfl ?_
    refine EW.len rfl rfl rfl rfl rfl rfl ?_
    refine EW.bin rfl rfl rfl rfl rfl rfl rfl BV.lss ?_
    refine EW.done ?_
    refine NW.seq ?_
    by_cases hlt : k < fr.length
    · refine CW.cond_t rfl (by simpa using hlt) ?_
      obtain ⟨af, rfl, _, hld⟩ := hfr.at_ hlt
      have h1 : ∀ w, Keep noS w0 w → LDP Tryz.prog w 44 (af.add ((k : Int).toNat * 2)) (encL fr[k]) := fun w hk => (hld k fr[k] (by simp)).keep hk (fun h => h)
      have hcov1 : ∀ a, a ∈ fr.take (k + 1) → a ∈ fr.take k ∨ a = fr[k] := fun a ha => by
        rw [List.take_succ_eq_append_getElem hlt] at ha
        rcases List.mem_append.1 ha with h | h
        · exact .inl h
        · exact .inr (List.mem_singleton.1 h)
      refine KW.skip ?_
      refine NW.seq ?_
      refine KW.seq ?_
      refine KW.block ?_
      refine KW.seq ?_
      refine CW.regionD (noS) [(0, .q), (1, .q), (2, .q), (3, .q), (4, .q), (5, .q), (6, .q), (7, .q), (8, .l), (9, .q), (10, .q), (11, .q), (12, .q), (13, .q), (14, .q), (15, .l), (16, .q), (17, .q)] mixed (by kernel_rfl) ?_
      replace hs := hs.drew
      refine EW.move rfl rfl rfl rfl rfl rfl ?_
      refine EW.nilCheck rfl rfl rfl rfl rfl rfl ?_
      first | refine EW.fieldAddr rfl rfl rfl rfl rfl rfl ?_ | refine EW.fieldAddrA rfl rfl rfl rfl rfl rfl ?_
      refine EW.loadP rfl rfl rfl rfl rfl rfl (by first | with_reducible exact hgE _ hs.keep | with_reducible exact hgN _ hs.keep | with_reducible exact h1 _ hs.keep | assumption | (apply LDP.drew; assumption) | exact St.ld1 hs 0 rfl rfl | exact St.ldA hs 0 rfl rfl rfl | exact St.ld1 hs 1 rfl rfl | exact St.ldA hs 1 rfl rfl rfl | exact St.ld1 hs 2 rfl rfl | exact St.ldA hs 2 rfl rfl rfl | exact St.ld1 hs 3 rfl rfl | exact St.ldA hs 3 rfl rfl rfl | exact St.ld1 hs 4 rfl rfl | exact St.ldA hs 4 rfl rfl rfl | exact St.ld1 hs 5 rfl rfl | exact St.ldA hs 5 rfl rfl rfl | exact St.ld1 hs 6 rfl rfl | exact St.ldA hs 6 rfl rfl rfl) (by first | exact .inl rfl | exact .inr (fun h => h)) ?_
      refine EW.move rfl rfl rfl rfl rfl rfl ?_
      refine EW.move rfl rfl rfl rfl rfl rfl ?_
      refine EW.indexAddr rfl rfl rfl rfl rfl rfl rfl (by omega) (by omega) ?_
      refine EW.loadP rfl rfl rfl rfl rfl rfl (by first | with_reducible exact hgE _ hs.keep | with_reducible exact hgN _ hs.keep | with_reducible exact h1 _ hs.keep | assumption | (apply LDP.drew; assumption) | exact St.ld1 hs 0 rfl rfl | exact St.ldA hs 0 rfl rfl rfl | exact St.ld1 hs 1 rfl rfl | exact St.ldA hs 1 rfl rfl rfl | exact St.ld1 hs 2 rfl rfl | exact St.ldA hs 2 rfl rfl rfl | exact St.ld1 hs 3 rfl rfl | exact St.ldA hs 3 rfl rfl rfl | exact St.ld1 hs 4 rfl rfl | exact St.ldA hs 4 rfl rfl rfl | exact St.ld1 hs 5 rfl rfl | exact St.ldA hs 5 rfl rfl rfl | exact St.ld1 hs 6 rfl rfl | exact St.ldA hs 6 rfl rfl rfl) (by first | exact .inl rfl | exact .inr (fun h => h)) ?_
      refine EW.callT1 (In_spec _ _ _ _ _ (hg.n.stay hs.keep) (by omega)) rfl rfl rfl rfl rfl Tryz.func22 bd22 nm22 rfl ?_
      intro v23 w hk23 hp23
      subst hp23
      replace hs := hs.stay hk23
      refine EW.move rfl rfl rfl rfl rfl rfl ?_
      refine EW.caseB (fun hm => ?_) (fun hm => ?_)
      · skip
        have hm' : fr[k] ∈ g.N := by simpa using hm
        refine EW.move rfl rfl rfl rfl rfl rfl ?_
        refine EW.move rfl rfl rfl rfl rfl rfl ?_
        refine EW.move rfl rfl rfl rfl rfl rfl ?_
        refine EW.indexAddr rfl rfl rfl rfl rfl rfl rfl (by omega) (by omega) ?_
        refine EW.loadP rfl rfl rfl rfl rfl rfl (by first | with_reducible exact hgE _ hs.keep | with_reducible exact hgN _ hs.keep | with_reducible exact h1 _ hs.keep | assumption | (apply LDP.drew; assumption) | exact St.ld1 hs 0 rfl rfl | exact St.ldA hs 0 rfl rfl rfl | exact St.ld1 hs 1 rfl rfl | exact St.ldA hs 1 rfl rfl rfl | exact St.ld1 hs 2 rfl rfl | exact St.ldA hs 2 rfl rfl rfl | exact St.ld1 hs 3 rfl rfl | exact St.ldA hs 3 rfl rfl rfl | exact St.ld1 hs 4 rfl rfl | exact St.ldA hs 4 rfl rfl rfl | exact St.ld1 hs 5 rfl rfl | exact St.ldA hs 5 rfl rfl rfl | exact St.ld1 hs 6 rfl rfl | exact St.ldA hs 6 rfl rfl rfl) (by first | exact .inl rfl | exact .inr (fun h => h)) ?_
        refine EW.callT1 (In_spec _ _ _ _ _ (hs.sl 0 rfl) (by omega)) rfl rfl rfl rfl rfl Tryz.func22 bd22 nm22 rfl ?_
        intro v30 w hk30 hp30
        subst hp30
        replace hs := hs.stay hk30
        refine EW.not rfl rfl rfl rfl rfl rfl ?_
        refine EW.pick rfl rfl rfl rfl rfl rfl rfl ?_
        refine EW.done ?_
        refine NW.seq ?_
        refine KW.cond rfl (fun hn => ?_) (fun hn => ?_)
        · skip
          have hn' : fr[k] ∉ got := by simpa using hn
          refine CW.region (S := noS) [(0, .q), (1, .q), (2, .q), (3, .q), (4, .q), (5, .l), (6, .l), (7, .q)] rfl ?_
          refine EW.move rfl rfl rfl rfl rfl rfl ?_
          refine EW.move rfl rfl rfl rfl rfl rfl ?_
          refine EW.move rfl rfl rfl rfl rfl rfl ?_
          refine EW.indexAddr rfl rfl rfl rfl rfl rfl rfl (by omega) (by omega) ?_
          refine EW.loadP rfl rfl rfl rfl rfl rfl (by first | with_reducible exact hgE _ hs.keep | with_reducible exact hgN _ hs.keep | with_reducible exact h1 _ hs.keep | assumption | (apply LDP.drew; assumption) | exact St.ld1 hs 0 rfl rfl | exact St.ldA hs 0 rfl rfl rfl | exact St.ld1 hs 1 rfl rfl | exact St.ldA hs 1 rfl rfl rfl | exact St.ld1 hs 2 rfl rfl | exact St.ldA hs 2 rfl rfl rfl | exact St.ld1 hs 3 rfl rfl | exact St.ldA hs 3 rfl rfl rfl | exact St.ld1 hs 4 rfl rfl | exact St.ldA hs 4 rfl rfl rfl | exact St.ld1 hs 5 rfl rfl | exact St.ldA hs 5 rfl rfl rfl | exact St.ld1 hs 6 rfl rfl | exact St.ldA hs 6 rfl rfl rfl) (by first | exact .inl rfl | exact .inr (fun h => h)) ?_
          refine EW.lit1 elL (_) hs rfl rfl rfl rfl rfl rfl rfl ?_
          clear hs; intro b38 w hs
          first | refine EW.append1 elL 1 0 hs rfl rfl (by show _ * 32 ≤ 140737488355328; omega) (.inl rfl) rfl rfl rfl rfl rfl rfl rfl ?_ | refine EW.append1 elL 2 0 hs rfl rfl (by show _ * 32 ≤ 140737488355328; omega) (.inl rfl) rfl rfl rfl rfl rfl rfl rfl ?_ | refine EW.append1 elL 3 0 hs rfl rfl (by show _ * 32 ≤ 140737488355328; omega) (.inl rfl) rfl rfl rfl rfl rfl rfl rfl ?_ | refine EW.append1 elL 4 0 hs rfl rfl (by show _ * 32 ≤ 140737488355328; omega) (.inl rfl) rfl rfl rfl rfl rfl rfl rfl ?_ | refine EW.append1 elL 5 0 hs rfl rfl (by show _ * 32 ≤ 140737488355328; omega) (.inl rfl) rfl rfl rfl rfl rfl rfl rfl ?_ | refine EW.append1 elL 6 0 hs rfl rfl (by show _ * 32 ≤ 140737488355328; omega) (.inl rfl) rfl rfl rfl rfl rfl rfl rfl ?_ | refine EW.append1 elL 7 0 hs rfl rfl (by show _ * 32 ≤ 140737488355328; omega) (.inl rfl) rfl rfl rfl rfl rfl rfl rfl ?_
          clear hs; intro v39 w hs; dsimp only [List.set] at hs; replace hs := hs.tail
          refine EW.assign rfl rfl rfl rfl rfl rfl ?_
          refine EW.done ?_
          refine NW.blk ?_
          refine NW.seq ?_
          refine CW.region (S := noS) [(0, .q), (1, .q), (2, .q)] rfl ?_
          refine EW.move rfl rfl rfl rfl rfl rfl ?_
          refine EW.bin rfl rfl rfl rfl rfl rfl rfl (BV.add (wrap_i64 (by omega) (by omega))) ?_
          refine EW.assign rfl rfl rfl rfl rfl rfl ?_
          refine EW.done ?_
          refine NW.again ((k + 1, v39, got ++ [fr[k]])) (by first | (dsimp only; omega) | omega | (simp; omega)) (by repeat (first | exact trivial | (refine ⟨by first | rfl | (congr 2; omega) | (simp; done) | (congr 1; simp; done), ?_⟩))) ?_
          try dsimp only
          refine ⟨hlt, ?_, ?_, ?_, hs⟩
          · rw [List.nodup_append]
            exact ⟨hnd, by simp, fun a ha b hb => by simp at hb; subst hb; intro e; subst e; exact hn' ha⟩
          · intro a ha
            rcases List.mem_append.1 ha with h | h
            · exact hin a h
            · simp at h; subst h; exact .base _ ⟨List.getElem_mem hlt, hm'⟩
          · intro a ha haN
            rcases hcov1 a ha with h | h
            · simp [hcov a h haN]
            · simp [h]
        · skip
          have hn' : fr[k] ∈ got := by simpa using hn
          refine KW.skip ?_
          refine NW.blk ?_
          refine NW.seq ?_
          refine CW.region (S := noS) [(0, .q), (1, .q), (2, .q)] rfl ?_
          refine EW.move rfl rfl rfl rfl rfl rfl ?_
          refine EW.bin rfl rfl rfl rfl rfl rfl rfl (BV.add (wrap_i64 (by omega) (by omega))) ?_
          refine EW.assign rfl rfl rfl rfl rfl rfl ?_
          refine EW.done ?_
          refine NW.again ((k + 1, .slice A5 got.length c5, got)) (by first | (dsimp only; omega) | omega | (simp; omega)) (by repeat (first | exact trivial | (refine ⟨by first | rfl | (congr 2; omega) | (simp; done) | (congr 1; simp; done), ?_⟩))) ?_
          try dsimp only
          refine ⟨hlt, hnd, hin, ?_, hs⟩
          intro a ha haN
          rcases hcov1 a ha with h | h
          · exact hcov a h haN
          · rw [h]; exact hn'
      · skip
        have hm' : fr[k] ∉ g.N := by simpa using hm
        refine EW.off rfl rfl rfl rfl ?_
        refine EW.off rfl rfl rfl rfl ?_
        refine EW.off rfl rfl rfl rfl ?_
        refine EW.off rfl rfl rfl rfl ?_
        refine EW.off rfl rfl rfl rfl ?_
        refine EW.off rfl rfl rfl rfl ?_
        refine EW.off rfl rfl rfl rfl ?_
        refine EW.pick rfl rfl rfl rfl rfl rfl rfl ?_
        refine EW.done ?_
        refine NW.seq ?_
        refine CW.cond_f rfl (rfl) ?_
        refine KW.skip ?_
        refine NW.blk ?_
        refine NW.seq ?_
        refine CW.region (S := noS) [(0, .q), (1, .q), (2, .q)] rfl ?_
        refine EW.move rfl rfl rfl rfl rfl rfl ?_
        refine EW.bin rfl rfl rfl rfl rfl rfl rfl (BV.add (wrap_i64 (by omega) (by omega))) ?_
        refine EW.assign rfl rfl rfl rfl rfl rfl ?_
        refine EW.done ?_
        refine NW.again ((k + 1, .slice A5 got.length c5, got)) (by first | (dsimp only; omega) | omega | (simp; omega)) (by repeat (first | exact trivial | (refine ⟨by first | rfl | (congr 2; omega) | (simp; done) | (congr 1; simp; done), ?_⟩))) ?_
        try dsimp only
        refine ⟨hlt, hnd, hin, ?_, hs⟩
        intro a ha haN
        rcases hcov1 a ha with h | h
        · exact hcov a h haN
        · rw [h] at haN; exact absurd haN hm'
    · refine CW.cond_f rfl (by simpa using hlt) ?_
      refine KW.exit ?_
      refine XW.seq ?_
      refine XW.inv ?_
      refine XW.blk ?_
      refine NW.meet ((.slice A5 got.length c5, got)) (by repeat (first | exact trivial | (refine ⟨by first | rfl | (congr 2; omega) | (simp; done) | (congr 1; simp; done), ?_⟩))) ?_
      try dsimp only
      have hk' : k = fr.length := by omega
      subst hk'
      rw [List.take_length] at hcov
      exact ⟨hnd, hin, hcov, hs⟩
  · skip
    clear hs
    rintro ⟨v, got⟩ w ⟨hnd, hin, hcov, hs⟩
    dsimp only at hnd hin hcov hs
    refine KW.seq ?_
    refine KW.seq ?_
    refine CW.region (S := noS) [(0, .q)] rfl ?_
    refine EW.assign rfl rfl rfl rfl rfl rfl ?_
    refine EW.done ?_
    refine NW.seq ?_
    refine KW.block ?_
    refine KW.loop (ι := Nat × Value × List Lab) (fun i => 2001 - i.1) (fun i => [(0, .pointer (some ⟨b, 0, none⟩)), (5, i.2.1), (7, .int .i64 (i.1 : Int))]) (fun i w => i.1 ≤ i.2.2.length ∧ i.2.2.Nodup ∧ (∀ a ∈ i.2.2, Rch g.E (fun a => a ∈ fr ∧ a ∈ g.N) a) ∧ (∀ a, a ∈ fr → a ∈ g.N → a ∈ i.2.2) ∧ (∀ a ∈ i.2.2.take i.1, ∀ b, (a, b) ∈ g.E → b ∈ i.2.2) ∧ St w0 noS w [own elL i.2.1 i.2.2]) (0, v, got) (by repeat (first | exact trivial | (refine ⟨by first | rfl | (congr 2; omega) | (simp; done) | (congr 1; simp; done), ?_⟩))) ?_ ?_
    · exact ⟨Nat.zero_le _, hnd, hin, hcov, by simp, hs⟩
    clear hs hnd hin hcov
    rintro ⟨k, v, got⟩ w ⟨hk, hnd, hin, hcov, hcl, hs⟩
    dsimp only at hk hnd hin hcov hcl hs
    have hgl := hlen got hnd hin
    obtain ⟨A5, c5, rfl, _⟩ := own_sl (hs.res 0 rfl)
    refine KW.seq ?_
    refine KW.seq ?_
    refine CW.region (S := noS) [(0, .q), (1, .q), (2, .q), (3, .q)] rfl ?_
    refine EW.move rfl rfl rfl rfl rfl rfl ?_
    refine EW.move rfl rfl rfl rfl rfl rfl ?_
    refine EW.len rfl rfl rfl rfl rfl rfl ?_
    refine EW.bin rfl rfl rfl rfl rfl rfl rfl BV.lss ?_
    refine EW.done ?_
    refine NW.seq ?_
    by_cases hlt : k < got.length
    · refine CW.cond_t rfl (by simpa using hlt) ?_
      obtain ⟨x, hx⟩ : ∃ x, got[k]? = some x := ⟨got[k], by simp⟩
      have hxg : x ∈ got := List.mem_of_getElem? hx
      refine KW.skip ?_
      refine NW.seq ?_
      refine KW.seq ?_
      refine KW.block ?_
      refine KW.seq ?_
      refine CW.region (S := noS) [(0, .q)] rfl ?_
      refine EW.assign rfl rfl rfl rfl rfl rfl ?_
      refine EW.done ?_
      refine NW.seq ?_
      refine KW.block ?_
      refine KW.loop (ι := Nat × Value × List Lab) (fun i => g.E.length - i.1) (fun i => [(0, .pointer (some ⟨b, 0, none⟩)), (5, i.2.1), (7, .int .i64 (k : Int)), (8, .int .i64 (i.1 : Int))]) (fun i w => i.1 ≤ g.E.length ∧ k < i.2.2.length ∧ i.2.2[k]? = some x ∧ i.2.2.Nodup ∧ (∀ a ∈ i.2.2, Rch g.E (fun a => a ∈ fr ∧ a ∈ g.N) a) ∧ (∀ a, a ∈ fr → a ∈ g.N → a ∈ i.2.2) ∧ (∀ a ∈ i.2.2.take k, ∀ b, (a, b) ∈ g.E → b ∈ i.2.2) ∧ (∀ e ∈ g.E.take i.1, e.1 = x → e.2 ∈ i.2.2) ∧ St w0 noS w [own elL i.2.1 i.2.2]) (0, .slice A5 got.length c5, got) (by repeat (first | exact trivial | (refine ⟨by first | rfl | (congr 2; omega) | (simp; done) | (congr 1; simp; done), ?_⟩))) ?_ ?_
      · exact ⟨Nat.zero_le _, hlt, hx, hnd, hin, hcov, hcl, by simp, hs⟩
      clear hs
      rintro ⟨j, v, got⟩ w ⟨hj, hlt, hx, hnd, hin, hcov, hcl, he, hs⟩
      dsimp only at hj hlt hx hnd hin hcov hcl he hs
      have hgl := hlen got hnd hin
      have hxg : x ∈ got := List.mem_of_getElem? hx
      obtain ⟨A5, c5, rfl, _⟩ := own_sl (hs.res 0 rfl)
      refine KW.seq ?_
      refine KW.seq ?_
      refine CW.region (S := noS) [(0, .q), (1, .q), (2, .q), (3, .q), (4, .q), (5, .q), (6, .q)] rfl ?_
      refine EW.move rfl rfl rfl rfl rfl rfl ?_
      refine EW.move rfl rfl rfl rfl rfl rfl ?_
      refine EW.nilCheck rfl rfl rfl rfl rfl rfl ?_
      first | refine EW.fieldAddr rfl rfl rfl rfl rfl rfl ?_ | refine EW.fieldAddrA rfl rfl rfl rfl rfl rfl ?_
      refine EW.loadP rfl rfl rfl rfl rfl rfl (by first | with_reducible exact hgE _ hs.keep | with_reducible exact hgN _ hs.keep | assumption | (apply LDP.drew; assumption) | exact St.ld1 hs 0 rfl rfl | exact St.ldA hs 0 rfl rfl rfl | exact St.ld1 hs 1 rfl rfl | exact St.ldA hs 1 rfl rfl rfl | exact St.ld1 hs 2 rfl rfl | exact St.ldA hs 2 rfl rfl rfl | exact St.ld1 hs 3 rfl rfl | exact St.ldA hs 3 rfl rfl rfl | exact St.ld1 hs 4 rfl rfl | exact St.ldA hs 4 rfl rfl rfl | exact St.ld1 hs 5 rfl rfl | exact St.ldA hs 5 rfl rfl rfl | exact St.ld1 hs 6 rfl rfl | exact St.ldA hs 6 rfl rfl rfl) (by first | exact .inl rfl | exact .inr (fun h => h)) ?_
      refine EW.len rfl rfl rfl rfl rfl rfl ?_
      refine EW.bin rfl rfl rfl rfl rfl rfl rfl BV.lss ?_
      refine EW.done ?_
      refine NW.seq ?_
      by_cases hlj : j < g.E.length
      · refine CW.cond_t rfl (by simpa using hlj) ?_
        obtain ⟨ae, rfl⟩ := hg.some_ hlj
        have hxk : g.E[j]? = some g.E[j] := by simp
        have h1 : ∀ w, Keep noS w0 w → _ := fun w hk => hg.ld1 hk hxk
        have h2 : ∀ w, Keep noS w0 w → _ := fun w hk => hg.ld2 hk hxk
        obtain ⟨a5, rfl, _, hld5⟩ := (hs.sl 0 rfl).at_ hlt
        have g1 : LDP Tryz.prog w.drew 44 (a5.add ((k : Int).toNat * 2)) (encL x) := (hld5 k x hx).drew
        have he1 : ∀ e, e ∈ g.E.take (j + 1) → e ∈ g.E.take j ∨ e = g.E[j] := fun e hee => by
          rw [List.take_succ_eq_append_getElem hlj] at hee
          rcases List.mem_append.1 hee with h | h
          · exact .inl h
          · exact .inr (List.mem_singleton.1 h)
        refine KW.skip ?_
        refine NW.seq ?_
        refine KW.seq ?_
        refine KW.block ?_
        refine KW.seq ?_
        refine CW.regionD (noS) [(0, .q), (1, .q), (2, .q), (3, .q), (4, .q), (5, .q), (6, .q), (7, .q), (8, .q), (9, .q), (10, .q), (11, .q), (12, .q), (13, .q), (14, .q), (15, .q), (16, .q), (17, .q), (18, .q), (19, .q), (20, .q), (21, .q), (22, .q), (23, .l), (24, .q), (25, .q)] mixed (by kernel_rfl) ?_
        replace hs := hs.drew
        refine EW.move rfl rfl rfl rfl rfl rfl ?_
        refine EW.nilCheck rfl rfl rfl rfl rfl rfl ?_
        first | refine EW.fieldAddr rfl rfl rfl rfl rfl rfl ?_ | refine EW.fieldAddrA rfl rfl rfl rfl rfl rfl ?_
        refine EW.loadP rfl rfl rfl rfl rfl rfl (by first | with_reducible exact hgE _ hs.keep | with_reducible exact hgN _ hs.keep | with_reducible exact h1 _ hs.keep | with_reducible exact h2 _ hs.keep | assumption | (apply LDP.drew; assumption) | exact St.ld1 hs 0 rfl rfl | exact St.ldA hs 0 rfl rfl rfl | exact St.ld1 hs 1 rfl rfl | exact St.ldA hs 1 rfl rfl rfl | exact St.ld1 hs 2 rfl rfl | exact St.ldA hs 2 rfl rfl rfl | exact St.ld1 hs 3 rfl rfl | exact St.ldA hs 3 rfl rfl rfl | exact St.ld1 hs 4 rfl rfl | exact St.ldA hs 4 rfl rfl rfl | exact St.ld1 hs 5 rfl rfl | exact St.ldA hs 5 rfl rfl rfl | exact St.ld1 hs 6 rfl rfl | exact St.ldA hs 6 rfl rfl rfl) (by first | exact .inl rfl | exact .inr (fun h => h)) ?_
        refine EW.move rfl rfl rfl rfl rfl rfl ?_
        refine EW.indexAddr rfl rfl rfl rfl rfl rfl rfl (by omega) (by omega) ?_
        first | refine EW.fieldAddr rfl rfl rfl rfl rfl rfl ?_ | refine EW.fieldAddrA rfl rfl rfl rfl rfl rfl ?_
        refine EW.loadP rfl rfl rfl rfl rfl rfl (by first | with_reducible exact hgE _ hs.keep | with_reducible exact hgN _ hs.keep | with_reducible exact h1 _ hs.keep | with_reducible exact h2 _ hs.keep | assumption | (apply LDP.drew; assumption) | exact St.ld1 hs 0 rfl rfl | exact St.ldA hs 0 rfl rfl rfl | exact St.ld1 hs 1 rfl rfl | exact St.ldA hs 1 rfl rfl rfl | exact St.ld1 hs 2 rfl rfl | exact St.ldA hs 2 rfl rfl rfl | exact St.ld1 hs 3 rfl rfl | exact St.ldA hs 3 rfl rfl rfl | exact St.ld1 hs 4 rfl rfl | exact St.ldA hs 4 rfl rfl rfl | exact St.ld1 hs 5 rfl rfl | exact St.ldA hs 5 rfl rfl rfl | exact St.ld1 hs 6 rfl rfl | exact St.ldA hs 6 rfl rfl rfl) (by first | exact .inl rfl | exact .inr (fun h => h)) ?_
        refine EW.move rfl rfl rfl rfl rfl rfl ?_
        refine EW.move rfl rfl rfl rfl rfl rfl ?_
        refine EW.indexAddr rfl rfl rfl rfl rfl rfl rfl (by omega) (by omega) ?_
        refine EW.loadP rfl rfl rfl rfl rfl rfl g1 (.inr (fun h => h)) ?_
        refine EW.bin rfl rfl rfl rfl rfl rfl rfl (BVeq44) ?_
        refine EW.move rfl rfl rfl rfl rfl rfl ?_
        refine EW.caseB (fun hm => ?_) (fun hm => ?_)
        · skip
          have hm' : g.E[j].1 = x := by simpa using hm
          refine EW.move rfl rfl rfl rfl rfl rfl ?_
          refine EW.move rfl rfl rfl rfl rfl rfl ?_
          refine EW.nilCheck rfl rfl rfl rfl rfl rfl ?_
          first | refine EW.fieldAddr rfl rfl rfl rfl rfl rfl ?_ | refine EW.fieldAddrA rfl rfl rfl rfl rfl rfl ?_
          refine EW.loadP rfl rfl rfl rfl rfl rfl (by first | with_reducible exact hgE _ hs.keep | with_reducible exact hgN _ hs.keep | with_reducible exact h1 _ hs.keep | with_reducible exact h2 _ hs.keep | assumption | (apply LDP.drew; assumption) | exact St.ld1 hs 0 rfl rfl | exact St.ldA hs 0 rfl rfl rfl | exact St.ld1 hs 1 rfl rfl | exact St.ldA hs 1 rfl rfl rfl | exact St.ld1 hs 2 rfl rfl | exact St.ldA hs 2 rfl rfl rfl | exact St.ld1 hs 3 rfl rfl | exact St.ldA hs 3 rfl rfl rfl | exact St.ld1 hs 4 rfl rfl | exact St.ldA hs 4 rfl rfl rfl | exact St.ld1 hs 5 rfl rfl | exact St.ldA hs 5 rfl rfl rfl | exact St.ld1 hs 6 rfl rfl | exact St.ldA hs 6 rfl rfl rfl) (by first | exact .inl rfl | exact .inr (fun h => h)) ?_
          refine EW.move rfl rfl rfl rfl rfl rfl ?_
          refine EW.indexAddr rfl rfl rfl rfl rfl rfl rfl (by omega) (by omega) ?_
          first | refine EW.fieldAddr rfl rfl rfl rfl rfl rfl ?_ | refine EW.fieldAddrA rfl rfl rfl rfl rfl rfl ?_
          refine EW.loadP rfl rfl rfl rfl rfl rfl (by first | with_reducible exact hgE _ hs.keep | with_reducible exact hgN _ hs.keep | with_reducible exact h1 _ hs.keep | with_reducible exact h2 _ hs.keep | assumption | (apply LDP.drew; assumption) | exact St.ld1 hs 0 rfl rfl | exact St.ldA hs 0 rfl rfl rfl | exact St.ld1 hs 1 rfl rfl | exact St.ldA hs 1 rfl rfl rfl | exact St.ld1 hs 2 rfl rfl | exact St.ldA hs 2 rfl rfl rfl | exact St.ld1 hs 3 rfl rfl | exact St.ldA hs 3 rfl rfl rfl | exact St.ld1 hs 4 rfl rfl | exact St.ldA hs 4 rfl rfl rfl | exact St.ld1 hs 5 rfl rfl | exact St.ldA hs 5 rfl rfl rfl | exact St.ld1 hs 6 rfl rfl | exact St.ldA hs 6 rfl rfl rfl) (by first | exact .inl rfl | exact .inr (fun h => h)) ?_
          refine EW.callT1 (In_spec _ _ _ _ _ (hs.sl 0 rfl) (by omega)) rfl rfl rfl rfl rfl Tryz.func22 bd22 nm22 rfl ?_
          intro v78 w hk78 hp78
          subst hp78
          replace hs := hs.stay hk78
          refine EW.not rfl rfl rfl rfl rfl rfl ?_
          refine EW.pick rfl rfl rfl rfl rfl rfl rfl ?_
          refine EW.done ?_
          refine NW.seq ?_
          refine KW.cond rfl (fun hn => ?_) (fun hn => ?_)
          · skip
            have hn' : g.E[j].2 ∉ got := by simpa using hn
            refine CW.region (S := noS) [(0, .q), (1, .q), (2, .q), (3, .q), (4, .q), (5, .q), (6, .q), (7, .q), (8, .q), (9, .l), (10, .l), (11, .q)] rfl ?_
            refine EW.move rfl rfl rfl rfl rfl rfl ?_
            refine EW.move rfl rfl rfl rfl rfl rfl ?_
            refine EW.nilCheck rfl rfl rfl rfl rfl rfl ?_
            first | refine EW.fieldAddr rfl rfl rfl rfl rfl rfl ?_ | refine EW.fieldAddrA rfl rfl rfl rfl rfl rfl ?_
            refine EW.loadP rfl rfl rfl rfl rfl rfl (by first | with_reducible exact hgE _ hs.keep | with_reducible exact hgN _ hs.keep | with_reducible exact h1 _ hs.keep | with_reducible exact h2 _ hs.keep | assumption | (apply LDP.drew; assumption) | exact St.ld1 hs 0 rfl rfl | exact St.ldA hs 0 rfl rfl rfl | exact St.ld1 hs 1 rfl rfl | exact St.ldA hs 1 rfl rfl rfl | exact St.ld1 hs 2 rfl rfl | exact St.ldA hs 2 rfl rfl rfl | exact St.ld1 hs 3 rfl rfl | exact St.ldA hs 3 rfl rfl rfl | exact St.ld1 hs 4 rfl rfl | exact St.ldA hs 4 rfl rfl rfl | exact St.ld1 hs 5 rfl rfl | exact St.ldA hs 5 rfl rfl rfl | exact St.ld1 hs 6 rfl rfl | exact St.ldA hs 6 rfl rfl rfl) (by first | exact .inl rfl | exact .inr (fun h => h)) ?_
            refine EW.move rfl rfl rfl rfl rfl rfl ?_
            refine EW.indexAddr rfl rfl rfl rfl rfl rfl rfl (by omega) (by omega) ?_
            first | refine EW.fieldAddr rfl rfl rfl rfl rfl rfl ?_ | refine EW.fieldAddrA rfl rfl rfl rfl rfl rfl ?_
            refine EW.loadP rfl rfl rfl rfl rfl rfl (by first | with_reducible exact hgE _ hs.keep | with_reducible exact hgN _ hs.keep | with_reducible exact h1 _ hs.keep | with_reducible exact h2 _ hs.keep | assumption | (apply LDP.drew; assumption) | exact St.ld1 hs 0 rfl rfl | exact St.ldA hs 0 rfl rfl rfl | exact St.ld1 hs 1 rfl rfl | exact St.ldA hs 1 rfl rfl rfl | exact St.ld1 hs 2 rfl rfl | exact St.ldA hs 2 rfl rfl rfl | exact St.ld1 hs 3 rfl rfl | exact St.ldA hs 3 rfl rfl rfl | exact St.ld1 hs 4 rfl rfl | exact St.ldA hs 4 rfl rfl rfl | exact St.ld1 hs 5 rfl rfl | exact St.ldA hs 5 rfl rfl rfl | exact St.ld1 hs 6 rfl rfl | exact St.ldA hs 6 rfl rfl rfl) (by first | exact .inl rfl | exact .inr (fun h => h)) ?_
            refine EW.lit1 elL (_) hs rfl rfl rfl rfl rfl rfl rfl ?_
            clear hs; intro b90 w hs
            first | refine EW.append1 elL 1 0 hs rfl rfl (by show _ * 32 ≤ 140737488355328; omega) (.inl rfl) rfl rfl rfl rfl rfl rfl rfl ?_ | refine EW.append1 elL 2 0 hs rfl rfl (by show _ * 32 ≤ 140737488355328; omega) (.inl rfl) rfl rfl rfl rfl rfl rfl rfl ?_ | refine EW.append1 elL 3 0 hs rfl rfl (by show _ * 32 ≤ 140737488355328; omega) (.inl rfl) rfl rfl rfl rfl rfl rfl rfl ?_ | refine EW.append1 elL 4 0 hs rfl rfl (by show _ * 32 ≤ 140737488355328; omega) (.inl rfl) rfl rfl rfl rfl rfl rfl rfl ?_ | refine EW.append1 elL 5 0 hs rfl rfl (by show _ * 32 ≤ 140737488355328; omega) (.inl rfl) rfl rfl rfl rfl rfl rfl rfl ?_ | refine EW.append1 elL 6 0 hs rfl rfl (by show _ * 32 ≤ 140737488355328; omega) (.inl rfl) rfl rfl rfl rfl rfl rfl rfl ?_ | refine EW.append1 elL 7 0 hs rfl rfl (by show _ * 32 ≤ 140737488355328; omega) (.inl rfl) rfl rfl rfl rfl rfl rfl rfl ?_
            clear hs; intro v91 w hs; dsimp only [List.set] at hs; replace hs := hs.tail
            refine EW.assign rfl rfl rfl rfl rfl rfl ?_
            refine EW.done ?_
            refine NW.blk ?_
            refine NW.seq ?_
            refine CW.region (S := noS) [(0, .q), (1, .q), (2, .q)] rfl ?_
            refine EW.move rfl rfl rfl rfl rfl rfl ?_
            refine EW.bin rfl rfl rfl rfl rfl rfl rfl (BV.add (wrap_i64 (by omega) (by omega))) ?_
            refine EW.assign rfl rfl rfl rfl rfl rfl ?_
            refine EW.done ?_
            refine NW.again ((j + 1, v91, got ++ [g.E[j].2])) (by first | (dsimp only; omega) | omega | (simp; omega)) (by repeat (first | exact trivial | (refine ⟨by first | rfl | (congr 2; omega) | (simp; done) | (congr 1; simp; done), ?_⟩))) ?_
            try dsimp only
            refine ⟨hlj, by simp; omega, ?_, ?_, ?_, ?_, ?_, ?_, hs⟩
            · rw [List.getElem?_append_left hlt]; exact hx
            · rw [List.nodup_append]
              exact ⟨hnd, by simp, fun a ha b hb => by simp at hb; subst hb; intro e; subst e; exact hn' ha⟩
            · intro a ha
              rcases List.mem_append.1 ha with h | h
              · exact hin a h
              · simp at h; subst h
                exact .step x _ (hin x hxg) (by rw [← hm']; exact List.getElem_mem hlj)
            · intro a h1 h2; simp [hcov a h1 h2]
            · intro a ha b' hb'
              rw [List.take_append_of_le_length (by omega)] at ha
              simp [hcl a ha b' hb']
            · intro e hee hex
              rcases he1 e hee with h | h
              · simp [he e h hex]
              · simp [h]
          · skip
            have hn' : g.E[j].2 ∈ got := by simpa using hn
            refine KW.skip ?_
            refine NW.blk ?_
            refine NW.seq ?_
            refine CW.region (S := noS) [(0, .q), (1, .q), (2, .q)] rfl ?_
            refine EW.move rfl rfl rfl rfl rfl rfl ?_
            refine EW.bin rfl rfl rfl rfl rfl rfl rfl (BV.add (wrap_i64 (by omega) (by omega))) ?_
            refine EW.assign rfl rfl rfl rfl rfl rfl ?_
            refine EW.done ?_
            refine NW.again ((j + 1, .slice (some a5) got.length c5, got)) (by first | (dsimp only; omega) | omega | (simp; omega)) (by repeat (first | exact trivial | (refine ⟨by first | rfl | (congr 2; omega) | (simp; done) | (congr 1; simp; done), ?_⟩))) ?_
            try dsimp only
            refine ⟨hlj, hlt, hx, hnd, hin, hcov, hcl, ?_, hs⟩
            intro e hee hex
            rcases he1 e hee with h | h
            · exact he e h hex
            · rw [h]; exact hn'
        · skip
          have hm' : ¬ g.E[j].1 = x := by simpa using hm
          refine EW.off rfl rfl rfl rfl ?_
          refine EW.off rfl rfl rfl rfl ?_
          refine EW.off rfl rfl rfl rfl ?_
          refine EW.off rfl rfl rfl rfl ?_
          refine EW.off rfl rfl rfl rfl ?_
          refine EW.off rfl rfl rfl rfl ?_
          refine EW.off rfl rfl rfl rfl ?_
          refine EW.off rfl rfl rfl rfl ?_
          refine EW.off rfl rfl rfl rfl ?_
          refine EW.off rfl rfl rfl rfl ?_
          refine EW.off rfl rfl rfl rfl ?_
          refine EW.pick rfl rfl rfl rfl rfl rfl rfl ?_
          refine EW.done ?_
          refine NW.seq ?_
          refine CW.cond_f rfl (rfl) ?_
          refine KW.skip ?_
          refine NW.blk ?_
          refine NW.seq ?_
          refine CW.region (S := noS) [(0, .q), (1, .q), (2, .q)] rfl ?_
          refine EW.move rfl rfl rfl rfl rfl rfl ?_
          refine EW.bin rfl rfl rfl rfl rfl rfl rfl (BV.add (wrap_i64 (by omega) (by omega))) ?_
          refine EW.assign rfl rfl rfl rfl rfl rfl ?_
          refine EW.done ?_
          refine NW.again ((j + 1, .slice (some a5) got.length c5, got)) (by first | (dsimp only; omega) | omega | (simp; omega)) (by repeat (first | exact trivial | (refine ⟨by first | rfl | (congr 2; omega) | (simp; done) | (congr 1; simp; done), ?_⟩))) ?_
          try dsimp only
          refine ⟨hlj, hlt, hx, hnd, hin, hcov, hcl, ?_, hs⟩
          intro e hee hex
          rcases he1 e hee with h | h
          · exact he e h hex
          · rw [h] at hex; exact absurd hex hm'
      · refine CW.cond_f rfl (by simpa using hlj) ?_
        refine KW.exit ?_
        refine XW.seq ?_
        refine XW.inv ?_
        refine XW.blk ?_
        refine NW.blk ?_
        refine NW.seq ?_
        refine CW.region (S := noS) [(0, .q), (1, .q), (2, .q)] rfl ?_
        refine EW.move rfl rfl rfl rfl rfl rfl ?_
        refine EW.bin rfl rfl rfl rfl rfl rfl rfl (BV.add (wrap_i64 (by omega) (by omega))) ?_
        refine EW.assign rfl rfl rfl rfl rfl rfl ?_
        refine EW.done ?_
        refine NW.again ((k + 1, .slice A5 got.length c5, got)) (by first | (dsimp only; omega) | omega | (simp; omega)) (by repeat (first | exact trivial | (refine ⟨by first | rfl | (congr 2; omega) | (simp; done) | (congr 1; simp; done), ?_⟩))) ?_
        try dsimp only
        have hj' : j = g.E.length := by omega
        subst hj'
        rw [List.take_length] at he
        refine ⟨hlt, hnd, hin, hcov, ?_, hs⟩
        intro a ha b' hb'
        rw [List.take_add_one, List.mem_append] at ha
        rcases ha with h | h
        · exact hcl a h b' hb'
        · rw [hx] at h; simp at h; subst h
          exact he (_, b') hb' rfl
    · refine CW.cond_f rfl (by simpa using hlt) ?_
      have hk' : k = got.length := by omega
      subst hk'
      rw [List.take_length] at hcl
      refine KW.exit ?_
      refine XW.seq ?_
      refine XW.inv ?_
      refine XW.blk ?_
      refine NW.seq ?_
      refine KW.seq ?_
      refine CW.region (S := noS) [(0, .q), (1, .l), (2, .q)] rfl ?_
      refine EW.move rfl rfl rfl rfl rfl rfl ?_
      refine EW.callT1 (Rising_spec _ _ _ _ (hs.sl 0 rfl) (by omega) (fun x hx => hsm.all (Rch_sub (hin x hx)))) rfl rfl rfl rfl rfl Tryz.func15 bd15 nm15 rfl ?_
      intro v93 w hk93 hp93
      replace hs := hs.fresh hk93 hp93
      refine EW.assign rfl rfl rfl rfl rfl rfl ?_
      refine EW.done ?_
      refine NW.seq ?_
      refine KW.ret1 rfl rfl ?_
      refine ⟨_, rfl, hs.keep, ?_⟩
      obtain ⟨r1, r2⟩ := rising_spec got
      exact ⟨_, hs.to_fresh 0 rfl, r1, fun a => by rw [r2]; exact ⟨hin a, fun h => Rch.closed (fun a ha => hcov a ha.1 ha.2) hcl h⟩⟩
end Go.Cw.Tryz
set_option linter.unusedVariables false
set_option linter.unusedSimpArgs false
namespace Go.Cw.Tryz
open Go.Proofs Go.Cw
attribute [local irreducible] Go.Addr.add

theorem build41 : ∀ w, (Instr.build 41 ([] : List (Nat × Value)).toArray).run Tryz.prog w = .ok (.agg #[.slice none 0 0, .slice none 0 0]) w := fun w => by kernel_rfl
def RG.back (g : RG) : RG := { N := g.N, E := g.E.map fun e => (e.2, e.1) }
/-- A graph that is answered. -/
def IsRG (w0 : World) (g : RG) (v : Value) (w' : World) : Prop := ∃ b AN cN AE cE, v = .pointer (some ⟨b, 0, none⟩) ∧ St w0 noS w' (rgR b (.slice AN g.N.length cN) (.slice AE g.E.length cE) g)
theorem RGA.of {wc w : World} {Sc : Nat → Prop} {H : List Res} {b : Nat} {AN : Option Addr} {cN : Nat} {AE : Option Addr} {cE : Nat} {g : RG} (hs : St wc Sc w H) (i j k : Nat) (hi : H[i]? = some (pt b (.cells #[.slice AN g.N.length cN, .slice AE g.E.length cE] 41))) (hj : H[j]? = some (own elL (.slice AN g.N.length cN) g.N)) (hk : H[k]? = some (own elE (.slice AE g.E.length cE) g.E)) : RGA w b AN cN AE cE g :=
  ⟨hs.res i hi, hs.sl j hj, hs.sl k hk⟩

theorem RBack_spec (w0 : World) (b : Nat) (AN : Option Addr) (cN : Nat) (AE : Option Addr) (cE : Nat) (g : RG) (hg : RGA w0 b AN cN AE cE g) (hsm : g.Sm 1000) :
    T1 Tryz.prog 34 [.pointer (some ⟨b, 0, none⟩)] w0 (IsRG w0 g.back) := by
  refine KW.enterT1 (n := 55) Tryz.func34 rfl rfl rfl ?_
  have hs := St.init w0 noS
  have hgE : ∀ w, Keep noS w0 w → _ := fun w hk => hg.ldE hk
  have hgN : ∀ w, Keep noS w0 w → _ := fun w hk => hg.ldN hk
  have hel := hsm.e
  have hnl := hsm.n
  have hb0 : b < w0.heap.size := (Array.getElem?_eq_some_iff.1 hg.blk).1
  refine KW.seq ?_
  refine CW.region (S := noS) [(0, .q)] rfl ?_
  refine EW.assign rfl rfl rfl rfl rfl rfl ?_
  refine EW.done ?_
  refine NW.seq ?_
  refine KW.seq ?_
  refine CW.region (S := noS) [(0, .q), (1, .l), (2, .q)] rfl ?_
  refine EW.build (α := Unit) (pv := []) rfl rfl rfl rfl rfl rfl rfl build41 ?_
  refine EW.box hs rfl rfl rfl rfl rfl rfl ?_
  clear hs; intro b6 w hs
  refine EW.assign rfl rfl rfl rfl rfl rfl ?_
  replace hs := hs.nil elL
  replace hs := hs.nil elE
  refine EW.done ?_
  refine NW.seq ?_
  refine KW.seq ?_
  refine CW.regionD (noS) [(0, .q), (1, .q), (2, .q), (3, .q), (4, .q), (5, .q), (6, .q), (7, .q), (8, .q), (9, .l), (10, .q), (11, .q), (12, .b)] mixed (by kernel_rfl) ?_
  replace hs := hs.drew
  refine EW.move rfl rfl rfl rfl rfl rfl ?_
  refine EW.move rfl rfl rfl rfl rfl rfl ?_
  refine EW.nilCheck rfl rfl rfl rfl rfl rfl ?_
  first | refine EW.fieldAddr rfl rfl rfl rfl rfl rfl ?_ | refine EW.fieldAddrA rfl rfl rfl rfl rfl rfl ?_
  refine EW.loadP rfl rfl rfl rfl rfl rfl (by first | with_reducible exact hgE _ hs.keep | with_reducible exact hgN _ hs.keep | assumption | (apply LDP.drew; assumption) | exact St.ld1 hs 0 rfl rfl | exact St.ldA hs 0 rfl rfl rfl | exact St.ld1 hs 1 rfl rfl | exact St.ldA hs 1 rfl rfl rfl | exact St.ld1 hs 2 rfl rfl | exact St.ldA hs 2 rfl rfl rfl | exact St.ld1 hs 3 rfl rfl | exact St.ldA hs 3 rfl rfl rfl | exact St.ld1 hs 4 rfl rfl | exact St.ldA hs 4 rfl rfl rfl | exact St.ld1 hs 5 rfl rfl | exact St.ldA hs 5 rfl rfl rfl | exact St.ld1 hs 6 rfl rfl | exact St.ldA hs 6 rfl rfl rfl) (by first | exact .inl rfl | exact .inr (fun h => h)) ?_
  refine EW.move rfl rfl rfl rfl rfl rfl ?_
  refine EW.nilCheck rfl rfl rfl rfl rfl rfl ?_
  first | refine EW.fieldAddr rfl rfl rfl rfl rfl rfl ?_ | refine EW.fieldAddrA rfl rfl rfl rfl rfl rfl ?_
  refine EW.loadP rfl rfl rfl rfl rfl rfl (by first | with_reducible exact hgE _ hs.keep | with_reducible exact hgN _ hs.keep | assumption | (apply LDP.drew; assumption) | exact St.ld1 hs 0 rfl rfl | exact St.ldA hs 0 rfl rfl rfl | exact St.ld1 hs 1 rfl rfl | exact St.ldA hs 1 rfl rfl rfl | exact St.ld1 hs 2 rfl rfl | exact St.ldA hs 2 rfl rfl rfl | exact St.ld1 hs 3 rfl rfl | exact St.ldA hs 3 rfl rfl rfl | exact St.ld1 hs 4 rfl rfl | exact St.ldA hs 4 rfl rfl rfl | exact St.ld1 hs 5 rfl rfl | exact St.ldA hs 5 rfl rfl rfl | exact St.ld1 hs 6 rfl rfl | exact St.ldA hs 6 rfl rfl rfl) (by first | exact .inl rfl | exact .inr (fun h => h)) ?_
  refine EW.appendAny elL 1 (ys := g.N) hs rfl (hg.n.stay hs.keep) (by show (0 + g.N.length) * 32 ≤ 140737488355328; omega) (.inr (fun k hk => by cases hk)) rfl rfl rfl rfl rfl rfl rfl ?_
  clear hs; intro v16 w hs; dsimp only [List.set, List.nil_append] at hs
  obtain ⟨A16, c16, rfl, _⟩ := own_sl (hs.res 1 rfl)
  refine EW.nilCheck rfl rfl rfl rfl rfl rfl ?_
  first | refine EW.fieldAddr rfl rfl rfl rfl rfl rfl ?_ | refine EW.fieldAddrA rfl rfl rfl rfl rfl rfl ?_
  first | refine EW.storeB hs 0 rfl rfl rfl rfl rfl rfl rfl rfl rfl (by simp [Value.oneCell', Value.cells]) rfl ?_ | refine EW.storeB hs 1 rfl rfl rfl rfl rfl rfl rfl rfl rfl (by simp [Value.oneCell', Value.cells]) rfl ?_ | refine EW.storeB hs 2 rfl rfl rfl rfl rfl rfl rfl rfl rfl (by simp [Value.oneCell', Value.cells]) rfl ?_ | refine EW.storeB hs 3 rfl rfl rfl rfl rfl rfl rfl rfl rfl (by simp [Value.oneCell', Value.cells]) rfl ?_ | refine EW.storeB hs 4 rfl rfl rfl rfl rfl rfl rfl rfl rfl (by simp [Value.oneCell', Value.cells]) rfl ?_ | refine EW.storeB hs 5 rfl rfl rfl rfl rfl rfl rfl rfl rfl (by simp [Value.oneCell', Value.cells]) rfl ?_ | refine EW.storeB hs 6 rfl rfl rfl rfl rfl rfl rfl rfl rfl (by simp [Value.oneCell', Value.cells]) rfl ?_
  clear hs; intro w hs; dsimp only [List.set, setAt] at hs
  refine EW.done ?_
  refine NW.seq ?_
  refine KW.seq ?_
  refine KW.seq ?_
  refine CW.region (S := noS) [(0, .q)] rfl ?_
  refine EW.assign rfl rfl rfl rfl rfl rfl ?_
  refine EW.done ?_
  refine NW.seq ?_
  refine KW.block ?_
  refine KW.loop (ι := Nat × Value) (fun i => g.E.length - i.1) (fun i => [(0, .pointer (some ⟨b, 0, none⟩)), (3, .pointer (some ⟨b6, 0, none⟩)), (4, .int .i64 (i.1 : Int))]) (fun i w => i.1 ≤ g.E.length ∧ St w0 noS w [own elE i.2 ((g.E.take i.1).map fun e => (e.2, e.1)), own elL (.slice A16 g.N.length c16) g.N, pt b6 (.cells [.slice A16 g.N.length c16, i.2].toArray 41)]) (0, .slice none 0 0) (by repeat (first | exact trivial | (refine ⟨by first | rfl | (congr 2; omega) | (simp; done) | (congr 1; simp; done), ?_⟩))) ?_ ?_
  · exact ⟨Nat.zero_le _, hs⟩
  clear hs
  rintro ⟨k, v⟩ w ⟨hk, hs⟩
  dsimp only at hk hs
  refine KW.seq ?_
  refine KW.seq ?_
  refine CW.region (S := noS) [(0, .q), (1, .q), (2, .q), (3, .q), (4, .q), (5, .q), (6, .q)] rfl ?_
  refine EW.move rfl rfl rfl rfl rfl rfl ?_
  refine EW.move rfl rfl rfl rfl rfl rfl ?_
  refine EW.nilCheck rfl rfl rfl rfl rfl rfl ?_
  first | refine EW.fieldAddr rfl rfl rfl rfl rfl rfl ?_ | refine EW.fieldAddrA rfl rfl rfl rfl rfl rfl ?_
  refine EW.loadP rfl rfl rfl rfl rfl rfl (by first | with_reducible exact hgE _ hs.keep | with_reducible exact hgN _ hs.keep | assumption | (apply LDP.drew; assumption) | exact St.ld1 hs 0 rfl rfl | exact St.ldA hs 0 rfl rfl rfl | exact St.ld1 hs 1 rfl rfl | exact St.ldA hs 1 rfl rfl rfl | exact St.ld1 hs 2 rfl rfl | exact St.ldA hs 2 rfl rfl rfl | exact St.ld1 hs 3 rfl rfl | exact St.ldA hs 3 rfl rfl rfl | exact St.ld1 hs 4 rfl rfl | exact St.ldA hs 4 rfl rfl rfl | exact St.ld1 hs 5 rfl rfl | exact St.ldA hs 5 rfl rfl rfl | exact St.ld1 hs 6 rfl rfl | exact St.ldA hs 6 rfl rfl rfl) (by first | exact .inl rfl | exact .inr (fun h => h)) ?_
  refine EW.len rfl rfl rfl rfl rfl rfl ?_
  refine EW.bin rfl rfl rfl rfl rfl rfl rfl BV.lss ?_
  refine EW.done ?_
  refine NW.seq ?_
  by_cases hlt : k < g.E.length
  · refine CW.cond_t rfl (by simpa using hlt) ?_
    obtain ⟨ae, rfl⟩ := hg.some_ hlt
    have hae : ae.block < w0.heap.size := by
      obtain ⟨ad, h1, h2, _⟩ := hg.e.at_ hlt
      injection h1 with h1; subst h1; exact h2
    have hxk : g.E[k]? = some g.E[k] := by simp
    have h1 : ∀ w, Keep noS w0 w → _ := fun w hk => hg.ld1 hk hxk
    have h2 : ∀ w, Keep noS w0 w → _ := fun w hk => hg.ld2 hk hxk
    have hnew := hs.newS 0 rfl
    have hap : ¬ (own elE v ((g.E.take k).map fun e => (e.2, e.1))).fp b6 := fun h => hs.apart 0 2 rfl rfl rfl b6 h rfl
    generalize hes : (g.E.take k).map (fun e => (e.2, e.1)) = es at hs hnew hap
    have hesl : es.length ≤ 1000 := by rw [← hes]; simp; omega
    have hstep : (g.E.take (k + 1)).map (fun e => (e.2, e.1)) = es ++ [(g.E[k].2, g.E[k].1)] := by
      rw [List.take_succ_eq_append_getElem hlt, List.map_append, hes]; rfl
    obtain ⟨A5, c5, rfl, _⟩ := own_sl (hs.res 0 rfl)
    refine KW.skip ?_
    refine NW.seq ?_
    refine KW.seq ?_
    refine KW.block ?_
    refine CW.regionD ((own elE (.slice A5 es.length c5) es).fp) [(0, .q), (1, .q), (2, .q), (3, .q), (4, .q), (5, .q), (6, .q), (7, .q), (8, .q), (9, .q), (10, .q), (11, .q), (12, .q), (13, .q), (14, .q), (15, .q), (16, .q), (17, .q), (18, .q), (19, .q), (20, .q), (21, .q), (22, .l), (23, .l), (24, .q), (25, .q), (26, .b)] mixed (by kernel_rfl) ?_
    replace hs := hs.drew
    refine EW.move rfl rfl rfl rfl rfl rfl ?_
    refine EW.move rfl rfl rfl rfl rfl rfl ?_
    refine EW.nilCheck rfl rfl rfl rfl rfl rfl ?_
    first | refine EW.fieldAddr rfl rfl rfl rfl rfl rfl ?_ | refine EW.fieldAddrA rfl rfl rfl rfl rfl rfl ?_
    refine EW.loadP rfl rfl rfl rfl rfl rfl (by first | with_reducible exact hgE _ hs.keep | with_reducible exact hgN _ hs.keep | with_reducible exact h1 _ hs.keep | with_reducible exact h2 _ hs.keep | assumption | (apply LDP.drew; assumption) | exact St.ld1 hs 0 rfl rfl | exact St.ldA hs 0 rfl rfl rfl | exact St.ld1 hs 1 rfl rfl | exact St.ldA hs 1 rfl rfl rfl | exact St.ld1 hs 2 rfl rfl | exact St.ldA hs 2 rfl rfl rfl | exact St.ld1 hs 3 rfl rfl | exact St.ldA hs 3 rfl rfl rfl | exact St.ld1 hs 4 rfl rfl | exact St.ldA hs 4 rfl rfl rfl | exact St.ld1 hs 5 rfl rfl | exact St.ldA hs 5 rfl rfl rfl | exact St.ld1 hs 6 rfl rfl | exact St.ldA hs 6 rfl rfl rfl) (by first | exact .inl rfl | exact .inr (fun h => h) | exact .inr hap | exact .inr (fun h => by have h3 := hnew _ h; simp only [add_block] at h3; omega)) ?_
    refine EW.move rfl rfl rfl rfl rfl rfl ?_
    refine EW.nilCheck rfl rfl rfl rfl rfl rfl ?_
    first | refine EW.fieldAddr rfl rfl rfl rfl rfl rfl ?_ | refine EW.fieldAddrA rfl rfl rfl rfl rfl rfl ?_
    refine EW.loadP rfl rfl rfl rfl rfl rfl (by first | with_reducible exact hgE _ hs.keep | with_reducible exact hgN _ hs.keep | with_reducible exact h1 _ hs.keep | with_reducible exact h2 _ hs.keep | assumption | (apply LDP.drew; assumption) | exact St.ld1 hs 0 rfl rfl | exact St.ldA hs 0 rfl rfl rfl | exact St.ld1 hs 1 rfl rfl | exact St.ldA hs 1 rfl rfl rfl | exact St.ld1 hs 2 rfl rfl | exact St.ldA hs 2 rfl rfl rfl | exact St.ld1 hs 3 rfl rfl | exact St.ldA hs 3 rfl rfl rfl | exact St.ld1 hs 4 rfl rfl | exact St.ldA hs 4 rfl rfl rfl | exact St.ld1 hs 5 rfl rfl | exact St.ldA hs 5 rfl rfl rfl | exact St.ld1 hs 6 rfl rfl | exact St.ldA hs 6 rfl rfl rfl) (by first | exact .inl rfl | exact .inr (fun h => h) | exact .inr hap | exact .inr (fun h => by have h3 := hnew _ h; simp only [add_block] at h3; omega)) ?_
    refine EW.move rfl rfl rfl rfl rfl rfl ?_
    refine EW.indexAddr rfl rfl rfl rfl rfl rfl rfl (by omega) (by omega) ?_
    first | refine EW.fieldAddr rfl rfl rfl rfl rfl rfl ?_ | refine EW.fieldAddrA rfl rfl rfl rfl rfl rfl ?_
    refine EW.loadP rfl rfl rfl rfl rfl rfl (by first | with_reducible exact hgE _ hs.keep | with_reducible exact hgN _ hs.keep | with_reducible exact h1 _ hs.keep | with_reducible exact h2 _ hs.keep | assumption | (apply LDP.drew; assumption) | exact St.ld1 hs 0 rfl rfl | exact St.ldA hs 0 rfl rfl rfl | exact St.ld1 hs 1 rfl rfl | exact St.ldA hs 1 rfl rfl rfl | exact St.ld1 hs 2 rfl rfl | exact St.ldA hs 2 rfl rfl rfl | exact St.ld1 hs 3 rfl rfl | exact St.ldA hs 3 rfl rfl rfl | exact St.ld1 hs 4 rfl rfl | exact St.ldA hs 4 rfl rfl rfl | exact St.ld1 hs 5 rfl rfl | exact St.ldA hs 5 rfl rfl rfl | exact St.ld1 hs 6 rfl rfl | exact St.ldA hs 6 rfl rfl rfl) (by first | exact .inl rfl | exact .inr (fun h => h) | exact .inr hap | exact .inr (fun h => by have h3 := hnew _ h; simp only [add_block] at h3; omega)) ?_
    refine EW.move rfl rfl rfl rfl rfl rfl ?_
    refine EW.nilCheck rfl rfl rfl rfl rfl rfl ?_
    first | refine EW.fieldAddr rfl rfl rfl rfl rfl rfl ?_ | refine EW.fieldAddrA rfl rfl rfl rfl rfl rfl ?_
    refine EW.loadP rfl rfl rfl rfl rfl rfl (by first | with_reducible exact hgE _ hs.keep | with_reducible exact hgN _ hs.keep | with_reducible exact h1 _ hs.keep | with_reducible exact h2 _ hs.keep | assumption | (apply LDP.drew; assumption) | exact St.ld1 hs 0 rfl rfl | exact St.ldA hs 0 rfl rfl rfl | exact St.ld1 hs 1 rfl rfl | exact St.ldA hs 1 rfl rfl rfl | exact St.ld1 hs 2 rfl rfl | exact St.ldA hs 2 rfl rfl rfl | exact St.ld1 hs 3 rfl rfl | exact St.ldA hs 3 rfl rfl rfl | exact St.ld1 hs 4 rfl rfl | exact St.ldA hs 4 rfl rfl rfl | exact St.ld1 hs 5 rfl rfl | exact St.ldA hs 5 rfl rfl rfl | exact St.ld1 hs 6 rfl rfl | exact St.ldA hs 6 rfl rfl rfl) (by first | exact .inl rfl | exact .inr (fun h => h) | exact .inr hap | exact .inr (fun h => by have h3 := hnew _ h; simp only [add_block] at h3; omega)) ?_
    refine EW.move rfl rfl rfl rfl rfl rfl ?_
    refine EW.indexAddr rfl rfl rfl rfl rfl rfl rfl (by omega) (by omega) ?_
    first | refine EW.fieldAddr rfl rfl rfl rfl rfl rfl ?_ | refine EW.fieldAddrA rfl rfl rfl rfl rfl rfl ?_
    refine EW.loadP rfl rfl rfl rfl rfl rfl (by first | with_reducible exact hgE _ hs.keep | with_reducible exact hgN _ hs.keep | with_reducible exact h1 _ hs.keep | with_reducible exact h2 _ hs.keep | assumption | (apply LDP.drew; assumption) | exact St.ld1 hs 0 rfl rfl | exact St.ldA hs 0 rfl rfl rfl | exact St.ld1 hs 1 rfl rfl | exact St.ldA hs 1 rfl rfl rfl | exact St.ld1 hs 2 rfl rfl | exact St.ldA hs 2 rfl rfl rfl | exact St.ld1 hs 3 rfl rfl | exact St.ldA hs 3 rfl rfl rfl | exact St.ld1 hs 4 rfl rfl | exact St.ldA hs 4 rfl rfl rfl | exact St.ld1 hs 5 rfl rfl | exact St.ldA hs 5 rfl rfl rfl | exact St.ld1 hs 6 rfl rfl | exact St.ldA hs 6 rfl rfl rfl) (by first | exact .inl rfl | exact .inr (fun h => h) | exact .inr hap | exact .inr (fun h => by have h3 := hnew _ h; simp only [add_block] at h3; omega)) ?_
    refine EW.build (α := Unit) (pv := [(0, encL g.E[k].2), (1, encL g.E[k].1)]) rfl rfl rfl rfl rfl rfl rfl (build74 g.E[k].2 g.E[k].1) ?_
    refine EW.lit1 elE ((g.E[k].2, g.E[k].1)) hs rfl rfl rfl rfl rfl rfl rfl ?_
    clear hs; intro b50 w hs
    refine EW.append1 elE 1 0 hs rfl rfl (by show (es.length + 1) * 64 ≤ 140737488355328; omega) (.inr (fun k hk => hk)) rfl rfl rfl rfl rfl rfl rfl ?_
    clear hs; intro v51 w hs; dsimp only [List.set] at hs; replace hs := hs.tail
    obtain ⟨A6, c6, rfl, _⟩ := own_sl (hs.res 0 rfl)
    refine EW.nilCheck rfl rfl rfl rfl rfl rfl ?_
    first | refine EW.fieldAddr rfl rfl rfl rfl rfl rfl ?_ | refine EW.fieldAddrA rfl rfl rfl rfl rfl rfl ?_
    first | refine EW.storeB hs 0 rfl rfl rfl rfl rfl rfl rfl rfl rfl (by simp [Value.oneCell', Value.cells]) rfl ?_ | refine EW.storeB hs 1 rfl rfl rfl rfl rfl rfl rfl rfl rfl (by simp [Value.oneCell', Value.cells]) rfl ?_ | refine EW.storeB hs 2 rfl rfl rfl rfl rfl rfl rfl rfl rfl (by simp [Value.oneCell', Value.cells]) rfl ?_ | refine EW.storeB hs 3 rfl rfl rfl rfl rfl rfl rfl rfl rfl (by simp [Value.oneCell', Value.cells]) rfl ?_ | refine EW.storeB hs 4 rfl rfl rfl rfl rfl rfl rfl rfl rfl (by simp [Value.oneCell', Value.cells]) rfl ?_ | refine EW.storeB hs 5 rfl rfl rfl rfl rfl rfl rfl rfl rfl (by simp [Value.oneCell', Value.cells]) rfl ?_ | refine EW.storeB hs 6 rfl rfl rfl rfl rfl rfl rfl rfl rfl (by simp [Value.oneCell', Value.cells]) rfl ?_
    clear hs; intro w hs; dsimp only [List.set, setAt] at hs
    refine EW.done ?_
    refine NW.blk ?_
    refine NW.seq ?_
    refine CW.region (S := noS) [(0, .q), (1, .q), (2, .q)] rfl ?_
    refine EW.move rfl rfl rfl rfl rfl rfl ?_
    refine EW.bin rfl rfl rfl rfl rfl rfl rfl (BV.add (wrap_i64 (by omega) (by omega))) ?_
    refine EW.assign rfl rfl rfl rfl rfl rfl ?_
    refine EW.done ?_
    refine NW.again ((k + 1, .slice A6 (es ++ [(g.E[k].2, g.E[k].1)]).length c6)) (by first | (dsimp only; omega) | omega | (simp; omega)) (by repeat (first | exact trivial | (refine ⟨by first | rfl | (congr 2; omega) | (simp; done) | (congr 1; simp; done), ?_⟩))) ?_
    try dsimp only
    refine ⟨hlt, ?_⟩
    rw [hstep]; exact hs
  · refine CW.cond_f rfl (by simpa using hlt) ?_
    refine KW.exit ?_
    refine XW.seq ?_
    refine XW.inv ?_
    refine XW.blk ?_
    refine NW.seq ?_
    refine KW.seq ?_
    refine CW.region (S := noS) [(0, .q), (1, .q)] rfl ?_
    refine EW.move rfl rfl rfl rfl rfl rfl ?_
    refine EW.assign rfl rfl rfl rfl rfl rfl ?_
    refine EW.done ?_
    refine NW.seq ?_
    refine KW.ret1 rfl rfl ?_
    refine ⟨_, rfl, hs.keep, ?_⟩
    have hk' : k = g.E.length := by omega
    subst hk'
    rw [List.take_length] at hs
    obtain ⟨A5, c5, rfl, _⟩ := own_sl (hs.res 0 rfl)
    exact ⟨b6, A16, c16, A5, c5, rfl, hs.pick [2, 1, 0] (by decide)⟩
end Go.Cw.Tryz
set_option linter.unusedVariables false
set_option linter.unusedSimpArgs false
namespace Go.Cw.Tryz
open Go.Proofs Go.Cw
attribute [local irreducible] Go.Addr.add

def elP : El Tryz.prog SV := {
  ty := 30
  size := 1
  bytes := 24
  enc := svV
  zero := .slice none 0 0
  info := by kernel_rfl
  zsize := rfl
  pos := by decide
  posb := by decide
  cells := fun _ => rfl
  one := fun x u hu => by
    obtain rfl : u = svV x := by simpa [Value.cells, svV] using hu
    rfl
  ld := fun w p x h => LD.one (by simpa [Addr.add] using h 0 (svV x) rfl) }

/-- Lists of labels, all in new memory. -/
def PartsPost (w0 : World) (xss : List (List Lab)) (v : Value) (w' : World) : Prop :=
  ∃ ps : List (SV × List Lab), ps.map (·.2) = xss ∧ St w0 noS w' [own elP v (ps.map (·.1)), rows elL ps]
def RG.Wf (g : RG) : Prop := ∀ e ∈ g.E, e.1 ∈ g.N ∧ e.2 ∈ g.N

theorem RParts_spec (w0 : World) (b : Nat) (AN : Option Addr) (cN : Nat) (AE : Option Addr) (cE : Nat) (g : RG) (hg : RGA w0 b AN cN AE cE g) (hsm : g.Sm 1000) (hwf : g.Wf) :
    T1 Tryz.prog 12 [.pointer (some ⟨b, 0, none⟩)] w0 fun v w' => ∃ xss, IsParts g.N g.E xss ∧ PartsPost w0 xss v w' := by
  refine KW.enterT1 (n := 70) Tryz.func12 rfl rfl rfl ?_
  have hs := St.init w0 noS
  have hgE : ∀ w, Keep noS w0 w → _ := fun w hk => hg.ldE hk
  have hgN : ∀ w, Keep noS w0 w → _ := fun w hk => hg.ldN hk
  have hel := hsm.e
  have hnl := hsm.n
  obtain ⟨hr1, hr2⟩ := rising_spec g.N
  have hr3 := length_risingL g.N
  have hbm : g.back.Sm 1000 := ⟨hnl, by simpa [RG.back] using hel, hsm.nm, fun e he => by
    obtain ⟨x, hx, rfl⟩ := List.mem_map.1 he
    exact ⟨(hsm.em x hx).2, (hsm.em x hx).1⟩⟩
  refine KW.seq ?_
  refine CW.region (S := noS) [(0, .q)] rfl ?_
  refine EW.assign rfl rfl rfl rfl rfl rfl ?_
  refine EW.done ?_
  refine NW.seq ?_
  refine KW.seq ?_
  refine CW.region (S := noS) [(0, .q), (1, .q), (2, .q), (3, .q), (4, .l), (5, .q)] rfl ?_
  refine EW.move rfl rfl rfl rfl rfl rfl ?_
  refine EW.nilCheck rfl rfl rfl rfl rfl rfl ?_
  first | refine EW.fieldAddr rfl rfl rfl rfl rfl rfl ?_ | refine EW.fieldAddrA rfl rfl rfl rfl rfl rfl ?_
  refine EW.loadP rfl rfl rfl rfl rfl rfl (by first | with_reducible exact hgE _ hs.keep | with_reducible exact hgN _ hs.keep | assumption | (apply LDP.drew; assumption) | exact St.ld1 hs 0 rfl rfl | exact St.ldA hs 0 rfl rfl rfl | exact St.ld1 hs 1 rfl rfl | exact St.ldA hs 1 rfl rfl rfl | exact St.ld1 hs 2 rfl rfl | exact St.ldA hs 2 rfl rfl rfl | exact St.ld1 hs 3 rfl rfl | exact St.ldA hs 3 rfl rfl rfl | exact St.ld1 hs 4 rfl rfl | exact St.ldA hs 4 rfl rfl rfl | exact St.ld1 hs 5 rfl rfl | exact St.ldA hs 5 rfl rfl rfl | exact St.ld1 hs 6 rfl rfl | exact St.ldA hs 6 rfl rfl rfl) (by first | exact .inl rfl | exact .inr (fun h => h)) ?_
  refine EW.callT1 (Rising_spec _ _ _ _ (hg.n.stay hs.keep) (by omega) (fun x hx => hsm.nm x hx)) rfl rfl rfl rfl rfl Tryz.func15 bd15 nm15 rfl ?_
  intro v15 w hk15 hp15
  replace hs := hs.fresh hk15 hp15
  obtain ⟨A15, c15, rfl, _⟩ := own_sl (hs.res 0 rfl)
  rename_i hdum
  clear hdum
  generalize risingL g.N = all at hs hr1 hr2 hr3 hp15 ⊢
  refine EW.assign rfl rfl rfl rfl rfl rfl ?_
  refine EW.done ?_
  refine NW.seq ?_
  refine KW.seq ?_
  refine CW.region (S := noS) [(0, .q)] rfl ?_
  refine EW.assign rfl rfl rfl rfl rfl rfl ?_
  refine EW.done ?_
  refine NW.seq ?_
  refine KW.seq ?_
  refine CW.region (S := noS) [(0, .q)] rfl ?_
  refine EW.assign rfl rfl rfl rfl rfl rfl ?_
  refine EW.done ?_
  refine NW.seq ?_
  refine KW.seq ?_
  refine KW.seq ?_
  refine CW.region (S := noS) [(0, .q)] rfl ?_
  refine EW.assign rfl rfl rfl rfl rfl rfl ?_
  refine EW.done ?_
  refine NW.seq ?_
  refine KW.block ?_
  replace hs := hs.nil elL
  replace hs := hs.rowsNil elL
  replace hs := hs.nil elP
  refine KW.loop (ι := Nat × Value × Value × List (SV × List Lab) × List Lab) (fun i => all.length - i.1) (fun i => [(0, .pointer (some ⟨b, 0, none⟩)), (3, .slice A15 all.length c15), (4, i.2.1), (5, i.2.2.1), (6, .int .i64 (i.1 : Int))]) (fun i w => i.1 ≤ all.length ∧ PartsUpTo g.E (all.take i.1) (i.2.2.2.1.map (·.2)) ∧ (∀ a, a ∈ i.2.2.2.2 ↔ ∃ p ∈ i.2.2.2.1.map (·.2), a ∈ p) ∧ i.2.2.2.2.length ≤ i.1 * 2000 ∧ i.2.2.2.1.length ≤ i.1 ∧ St w0 noS w [own elP i.2.1 (i.2.2.2.1.map (·.1)), rows elL i.2.2.2.1, own elL i.2.2.1 i.2.2.2.2, own elL (.slice A15 all.length c15) all]) (0, .slice none 0 0, .slice none 0 0, [], []) (by repeat (first | exact trivial | (refine ⟨by first | rfl | (congr 2; omega) | (simp; done) | (congr 1; simp; done), ?_⟩))) ?_ ?_
  · exact ⟨Nat.zero_le _, PartsUpTo.nil _, by simp, by simp, by simp, hs⟩
  clear hs
  rintro ⟨k, vo, vd, ps, done⟩ w ⟨hk, hpu, hdn, hdl, hpl, hs⟩
  dsimp only at hk hpu hdn hdl hpl hs
  obtain ⟨A5, c5, rfl, _⟩ := own_sl (hs.res 2 rfl)
  have hk1000 : k ≤ 1000 := by omega
  have hdl2 : done.length ≤ 2000000 := Nat.le_trans hdl (by omega)
  refine KW.seq ?_
  refine KW.seq ?_
  refine CW.region (S := noS) [(0, .q), (1, .q), (2, .q), (3, .q)] rfl ?_
  refine EW.move rfl rfl rfl rfl rfl rfl ?_
  refine EW.move rfl rfl rfl rfl rfl rfl ?_
  refine EW.len rfl rfl rfl rfl rfl rfl ?_
  refine EW.bin rfl rfl rfl rfl rfl rfl rfl BV.lss ?_
  refine EW.done ?_
  refine NW.seq ?_
  by_cases hlt : k < all.length
  · refine CW.cond_t rfl (by simpa using hlt) ?_
    obtain ⟨aa, rfl, haa, hld⟩ := (hs.sl 3 rfl).at_ hlt
    obtain ⟨x, hx⟩ : ∃ x, all[k]? = some x := ⟨all[k], by simp⟩
    have hxe : all[k] = x := by rw [List.getElem?_eq_getElem hlt] at hx; injection hx
    have hxa : x ∈ all := List.mem_of_getElem? hx
    have hxN : x ∈ g.N := (hr2 x).1 hxa
    have hbl : (own elL (.slice (some aa) all.length c15) all).fp aa.block := rfl
    have htk : all.take (k + 1) = all.take k ++ [x] := by rw [List.take_succ_eq_append_getElem hlt, hxe]
    have hdrop : all = all.take k ++ x :: all.drop (k + 1) := by
      rw [← hxe, ← List.drop_eq_getElem_cons hlt, List.take_append_drop]
    have g1 : LDP Tryz.prog w 44 (aa.add ((k : Int).toNat * 2)) (encL x) := hld k x hx
    refine KW.skip ?_
    refine NW.seq ?_
    refine KW.seq ?_
    refine KW.block ?_
    refine KW.seq ?_
    refine KW.seq ?_
    refine CW.region (S := noS) [(0, .q), (1, .q), (2, .q), (3, .q), (4, .q), (5, .l)] rfl ?_
    refine EW.move rfl rfl rfl rfl rfl rfl ?_
    refine EW.move rfl rfl rfl rfl rfl rfl ?_
    refine EW.move rfl rfl rfl rfl rfl rfl ?_
    refine EW.indexAddr rfl rfl rfl rfl rfl rfl rfl (by omega) (by omega) ?_
    refine EW.loadP rfl rfl rfl rfl rfl rfl (by first | with_reducible exact hgE _ hs.keep | with_reducible exact hgN _ hs.keep | assumption | (apply LDP.drew; assumption) | exact St.ld1 hs 0 rfl rfl | exact St.ldA hs 0 rfl rfl rfl | exact St.ld1 hs 1 rfl rfl | exact St.ldA hs 1 rfl rfl rfl | exact St.ld1 hs 2 rfl rfl | exact St.ldA hs 2 rfl rfl rfl | exact St.ld1 hs 3 rfl rfl | exact St.ldA hs 3 rfl rfl rfl | exact St.ld1 hs 4 rfl rfl | exact St.ldA hs 4 rfl rfl rfl | exact St.ld1 hs 5 rfl rfl | exact St.ldA hs 5 rfl rfl rfl | exact St.ld1 hs 6 rfl rfl | exact St.ldA hs 6 rfl rfl rfl) (by first | exact .inl rfl | exact .inr (fun h => h)) ?_
    refine EW.callT1 (In_spec _ _ _ _ _ (hs.sl 2 rfl) (by omega)) rfl rfl rfl rfl rfl Tryz.func22 bd22 nm22 rfl ?_
    intro v27 w hk27 hp27
    subst hp27
    replace hs := hs.stay hk27
    refine EW.done ?_
    refine NW.seq ?_
    refine KW.cond rfl (fun hin => ?_) (fun hin => ?_)
    · skip
      have hin' : x ∈ done := by simpa using hin
      refine KW.exit ?_
      refine XW.seq ?_
      refine XW.blk ?_
      refine NW.seq ?_
      refine CW.region (S := noS) [(0, .q), (1, .q), (2, .q)] rfl ?_
      refine EW.move rfl rfl rfl rfl rfl rfl ?_
      refine EW.bin rfl rfl rfl rfl rfl rfl rfl (BV.add (wrap_i64 (by omega) (by omega))) ?_
      refine EW.assign rfl rfl rfl rfl rfl rfl ?_
      refine EW.done ?_
      refine NW.again ((k + 1, vo, .slice A5 done.length c5, ps, done)) (by first | (dsimp only; omega) | omega | (simp; omega)) (by repeat (first | exact trivial | (refine ⟨by first | rfl | (congr 2; omega) | (simp; done) | (congr 1; simp; done), ?_⟩))) ?_
      try dsimp only
      refine ⟨hlt, ?_, hdn, Nat.le_trans hdl (Nat.mul_le_mul_right _ (Nat.le_succ k)), Nat.le_succ_of_le hpl, hs⟩
      rw [htk]
      exact hpu.skip ((hdn x).1 hin')
    · skip
      have hin' : x ∉ done := by simpa using hin
      have g2 := g1.keep hk27 (fun h => h)
      have hnot : ¬ ∃ p ∈ ps.map (·.2), x ∈ p := fun h => hin' ((hdn x).2 h)
      refine KW.skip ?_
      refine NW.seq ?_
      refine KW.seq ?_
      refine CW.region (S := noS) [(0, .q), (1, .q), (2, .q), (3, .q), (4, .q), (5, .l), (6, .l), (7, .q)] rfl ?_
      refine EW.move rfl rfl rfl rfl rfl rfl ?_
      refine EW.move rfl rfl rfl rfl rfl rfl ?_
      refine EW.move rfl rfl rfl rfl rfl rfl ?_
      refine EW.indexAddr rfl rfl rfl rfl rfl rfl rfl (by omega) (by omega) ?_
      refine EW.loadP rfl rfl rfl rfl rfl rfl (by first | with_reducible exact hgE _ hs.keep | with_reducible exact hgN _ hs.keep | assumption | (apply LDP.drew; assumption) | exact St.ld1 hs 0 rfl rfl | exact St.ldA hs 0 rfl rfl rfl | exact St.ld1 hs 1 rfl rfl | exact St.ldA hs 1 rfl rfl rfl | exact St.ld1 hs 2 rfl rfl | exact St.ldA hs 2 rfl rfl rfl | exact St.ld1 hs 3 rfl rfl | exact St.ldA hs 3 rfl rfl rfl | exact St.ld1 hs 4 rfl rfl | exact St.ldA hs 4 rfl rfl rfl | exact St.ld1 hs 5 rfl rfl | exact St.ldA hs 5 rfl rfl rfl | exact St.ld1 hs 6 rfl rfl | exact St.ldA hs 6 rfl rfl rfl) (by first | exact .inl rfl | exact .inr (fun h => h)) ?_
      refine EW.lit1 elL (x) hs rfl rfl rfl rfl rfl rfl rfl ?_
      clear hs; intro b33 w hs
      refine EW.callT1 (RReach_spec _ b _ _ _ _ g (some ⟨b33, 0, none⟩) 1 [x] (hg.stay hs.keep) hsm (SlA.lit hs 0 rfl) (by simp)) rfl rfl rfl rfl rfl Tryz.func23 bd23 nm23 rfl ?_
      intro v34 w hk34 hp34
      obtain ⟨ys1, hf34, hso1, hm1⟩ := hp34
      replace hs := hs.fresh hk34 hf34
      obtain ⟨A7, c7, rfl, _⟩ := own_sl (hs.res 0 rfl)
      replace hs := hs.pick [0, 2, 3, 4, 5] (by decide)
      simp only [List.filterMap_cons, List.filterMap_nil, List.getElem?_cons_succ, List.getElem?_cons_zero] at hs
      refine EW.assign rfl rfl rfl rfl rfl rfl ?_
      refine EW.done ?_
      refine NW.seq ?_
      refine KW.cut (ι := SV × List Lab) (fun i => [(0, .pointer (some ⟨b, 0, none⟩)), (3, .slice (some aa) all.length c15), (4, vo), (5, .slice A5 done.length c5), (6, .int .i64 (k : Int)), (7, .slice A7 ys1.length c7), (8, svV i.1)]) (fun i w => SortedL i.2 ∧ (∀ a, a ∈ i.2 ↔ Rch g.back.E (fun a => a ∈ [x] ∧ a ∈ g.N) a) ∧ St w0 noS w [own elL (svV i.1) i.2, own elL (.slice A7 ys1.length c7) ys1, own elP vo (ps.map (·.1)), rows elL ps, own elL (.slice A5 done.length c5) done, own elL (.slice (some aa) all.length c15) all]) ?_ ?_
      · skip
        have g3 : LDP Tryz.prog w 44 (aa.add ((k : Int).toNat * 2)) (encL x) := by
          obtain ⟨a', ha', _, hld'⟩ := (hs.sl 4 rfl).at_ hlt
          injection ha' with ha'; subst ha'
          exact hld' k x hx
        refine CW.regionD2 (noS) [(0, .q), (2, .q), (3, .q), (4, .q), (5, .q)] [(1, .l), (6, .l), (7, .l), (8, .q)] [(6, .l), (1, .l), (7, .l), (8, .q)] mixed (by kernel_rfl) ?_
        replace hs := hs.drew
        refine EW.move rfl rfl rfl rfl rfl rfl ?_
        refine EW.move rfl rfl rfl rfl rfl rfl ?_
        refine EW.move rfl rfl rfl rfl rfl rfl ?_
        refine EW.indexAddr rfl rfl rfl rfl rfl rfl rfl (by omega) (by omega) ?_
        refine EW.loadP rfl rfl rfl rfl rfl rfl (by first | with_reducible exact hgE _ hs.keep | with_reducible exact hgN _ hs.keep | assumption | (apply LDP.drew; assumption) | exact St.ld1 hs 0 rfl rfl | exact St.ldA hs 0 rfl rfl rfl | exact St.ld1 hs 1 rfl rfl | exact St.ldA hs 1 rfl rfl rfl | exact St.ld1 hs 2 rfl rfl | exact St.ldA hs 2 rfl rfl rfl | exact St.ld1 hs 3 rfl rfl | exact St.ldA hs 3 rfl rfl rfl | exact St.ld1 hs 4 rfl rfl | exact St.ldA hs 4 rfl rfl rfl | exact St.ld1 hs 5 rfl rfl | exact St.ldA hs 5 rfl rfl rfl | exact St.ld1 hs 6 rfl rfl | exact St.ldA hs 6 rfl rfl rfl) (by first | exact .inl rfl | exact .inr (fun h => h)) ?_
        refine EW.fork ?_ ?_
        · skip
          refine EW.callT1 (RBack_spec _ b _ _ _ _ g (hg.stay hs.keep) hsm) rfl rfl rfl rfl rfl Tryz.func34 bd34 nm34 rfl ?_
          intro v36 w hk36 hp36
          obtain ⟨bb, AN', cN', AE', cE', rfl, hst⟩ := hp36
          replace hs := hs.plus hst
          simp only [rgR, List.cons_append, List.nil_append] at hs
          refine EW.lit1 elL (x) hs rfl rfl rfl rfl rfl rfl rfl ?_
          clear hs; intro b41 w hs
          refine EW.callT1 (RReach_spec _ bb _ _ _ _ g.back (some ⟨b41, 0, none⟩) 1 [x] (RGA.of hs 1 2 3 rfl rfl rfl) hbm (SlA.lit hs 0 rfl) (by simp)) rfl rfl rfl rfl rfl Tryz.func23 bd23 nm23 rfl ?_
          intro v42 w hk42 hp42
          obtain ⟨ys2, hf42, hso2, hm2⟩ := hp42
          replace hs := hs.fresh hk42 hf42
          obtain ⟨A8, c8, rfl, _⟩ := own_sl (hs.res 0 rfl)
          refine EW.assign rfl rfl rfl rfl rfl rfl ?_
          refine EW.done ?_
          refine NW.meet (((A8, ys2.length, c8), ys2)) (by repeat (first | exact trivial | (refine ⟨by first | rfl | (congr 2; omega) | (simp; done) | (congr 1; simp; done), ?_⟩))) ?_
          try dsimp only
          exact ⟨hso2, hm2, hs.pick [0, 5, 6, 7, 8, 9] (by decide)⟩
        · skip
          refine EW.lit1 elL (x) hs rfl rfl rfl rfl rfl rfl rfl ?_
          clear hs; intro b41 w hs
          refine EW.callT1 (RBack_spec _ b _ _ _ _ g (hg.stay hs.keep) hsm) rfl rfl rfl rfl rfl Tryz.func34 bd34 nm34 rfl ?_
          intro v36 w hk36 hp36
          obtain ⟨bb, AN', cN', AE', cE', rfl, hst⟩ := hp36
          replace hs := hs.plus hst
          simp only [rgR, List.cons_append, List.nil_append] at hs
          refine EW.callT1 (RReach_spec _ bb _ _ _ _ g.back (some ⟨b41, 0, none⟩) 1 [x] (RGA.of hs 0 1 2 rfl rfl rfl) hbm (SlA.lit hs 3 rfl) (by simp)) rfl rfl rfl rfl rfl Tryz.func23 bd23 nm23 rfl ?_
          intro v42 w hk42 hp42
          obtain ⟨ys2, hf42, hso2, hm2⟩ := hp42
          replace hs := hs.fresh hk42 hf42
          obtain ⟨A8, c8, rfl, _⟩ := own_sl (hs.res 0 rfl)
          refine EW.assign rfl rfl rfl rfl rfl rfl ?_
          refine EW.done ?_
          refine NW.meet (((A8, ys2.length, c8), ys2)) (by repeat (first | exact trivial | (refine ⟨by first | rfl | (congr 2; omega) | (simp; done) | (congr 1; simp; done), ?_⟩))) ?_
          try dsimp only
          exact ⟨hso2, hm2, hs.pick [0, 5, 6, 7, 8, 9] (by decide)⟩
      · skip
        clear hs
        rintro ⟨⟨A8, n8, c8⟩, ys2⟩ w ⟨hso2, hm2, hs⟩
        dsimp only [svV] at hso2 hm2 hs
        obtain ⟨_, rfl, _⟩ := own_slA (hs.res 0 rfl)
        have hys1 : ys1.length ≤ 2000 := by
          have := nodup_sub_len ys1 (g.N ++ g.E.map (·.2)) (hso1.imp fun h e => by subst e; rw [lt_irrefl] at h; cases h) (fun a ha => Rch_sub ((hm1 a).1 ha))
          simp at this; omega
        have hys2 : ys2.length ≤ 2000 := by
          have := nodup_sub_len ys2 (g.back.N ++ g.back.E.map (·.2)) (hso2.imp fun h e => by subst e; rw [lt_irrefl] at h; cases h) (fun a ha => Rch_sub ((hm2 a).1 ha))
          simp [RG.back] at this; omega
        refine KW.seq ?_
        refine CW.region (S := noS) [(0, .q)] rfl ?_
        refine EW.assign rfl rfl rfl rfl rfl rfl ?_
        refine EW.done ?_
        refine NW.seq ?_
        replace hs := hs.nil elL
        refine KW.cut (ι := Value × List Lab) (fun i => [(0, .pointer (some ⟨b, 0, none⟩)), (3, .slice (some aa) all.length c15), (4, vo), (5, .slice A5 done.length c5), (6, .int .i64 (k : Int)), (9, i.1)]) (fun i w => i.2 = ys1.filter (fun a => decide (a ∈ ys2)) ∧ St w0 noS w [own elL i.1 i.2, own elP vo (ps.map (·.1)), rows elL ps, own elL (.slice A5 done.length c5) done, own elL (.slice (some aa) all.length c15) all]) ?_ ?_
        · skip
          refine KW.seq ?_
          refine CW.region (S := noS) [(0, .q)] rfl ?_
          refine EW.assign rfl rfl rfl rfl rfl rfl ?_
          refine EW.done ?_
          refine NW.seq ?_
          refine KW.block ?_
          refine KW.loop (ι := Nat × Value) (fun i => ys1.length - i.1) (fun i => [(0, .pointer (some ⟨b, 0, none⟩)), (3, .slice (some aa) all.length c15), (4, vo), (5, .slice A5 done.length c5), (6, .int .i64 (k : Int)), (7, .slice A7 ys1.length c7), (8, .slice A8 ys2.length c8), (9, i.2), (10, .int .i64 (i.1 : Int))]) (fun i w => i.1 ≤ ys1.length ∧ St w0 noS w [own elL i.2 ((ys1.take i.1).filter (fun a => decide (a ∈ ys2))), own elL (.slice A8 ys2.length c8) ys2, own elL (.slice A7 ys1.length c7) ys1, own elP vo (ps.map (·.1)), rows elL ps, own elL (.slice A5 done.length c5) done, own elL (.slice (some aa) all.length c15) all]) (0, .slice none 0 0) (by repeat (first | exact trivial | (refine ⟨by first | rfl | (congr 2; omega) | (simp; done) | (congr 1; simp; done), ?_⟩))) ?_ ?_
          · exact ⟨Nat.zero_le _, hs⟩
          clear hs
          rintro ⟨j, v⟩ w ⟨hj, hs⟩
          dsimp only at hj hs
          refine KW.seq ?_
          refine KW.seq ?_
          refine CW.region (S := noS) [(0, .q), (1, .q), (2, .q), (3, .q)] rfl ?_
          refine EW.move rfl rfl rfl rfl rfl rfl ?_
          refine EW.move rfl rfl rfl rfl rfl rfl ?_
          refine EW.len rfl rfl rfl rfl rfl rfl ?_
          refine EW.bin rfl rfl rfl rfl rfl rfl rfl BV.lss ?_
          refine EW.done ?_
          refine NW.seq ?_
          by_cases hlj : j < ys1.length
          · refine CW.cond_t rfl (by simpa using hlj) ?_
            obtain ⟨a7, rfl, _, hld7⟩ := (hs.sl 2 rfl).at_ hlj
            have g4 : LDP Tryz.prog w 44 (a7.add ((j : Int).toNat * 2)) (encL ys1[j]) := hld7 j ys1[j] (by simp)
            have hstep : (ys1.take (j + 1)).filter (fun a => decide (a ∈ ys2)) = if ys1[j] ∈ ys2 then (ys1.take j).filter (fun a => decide (a ∈ ys2)) ++ [ys1[j]] else (ys1.take j).filter (fun a => decide (a ∈ ys2)) := by
              rw [List.take_succ_eq_append_getElem hlj, List.filter_append]
              split <;> rename_i h <;> simp [h]
            have hfl : ((ys1.take j).filter (fun a => decide (a ∈ ys2))).length ≤ j := Nat.le_trans (List.length_filter_le _ _) (by simp; omega)
            generalize (ys1.take j).filter (fun a => decide (a ∈ ys2)) = pt9 at hs hstep hfl
            refine KW.skip ?_
            refine NW.seq ?_
            refine KW.seq ?_
            refine KW.block ?_
            refine KW.seq ?_
            refine CW.region (S := noS) [(0, .q), (1, .q), (2, .q), (3, .q), (4, .q), (5, .l)] rfl ?_
            refine EW.move rfl rfl rfl rfl rfl rfl ?_
            refine EW.move rfl rfl rfl rfl rfl rfl ?_
            refine EW.move rfl rfl rfl rfl rfl rfl ?_
            refine EW.indexAddr rfl rfl rfl rfl rfl rfl rfl (by omega) (by omega) ?_
            refine EW.loadP rfl rfl rfl rfl rfl rfl (by first | with_reducible exact hgE _ hs.keep | with_reducible exact hgN _ hs.keep | assumption | (apply LDP.drew; assumption) | exact St.ld1 hs 0 rfl rfl | exact St.ldA hs 0 rfl rfl rfl | exact St.ld1 hs 1 rfl rfl | exact St.ldA hs 1 rfl rfl rfl | exact St.ld1 hs 2 rfl rfl | exact St.ldA hs 2 rfl rfl rfl | exact St.ld1 hs 3 rfl rfl | exact St.ldA hs 3 rfl rfl rfl | exact St.ld1 hs 4 rfl rfl | exact St.ldA hs 4 rfl rfl rfl | exact St.ld1 hs 5 rfl rfl | exact St.ldA hs 5 rfl rfl rfl | exact St.ld1 hs 6 rfl rfl | exact St.ldA hs 6 rfl rfl rfl) (by first | exact .inl rfl | exact .inr (fun h => h)) ?_
            refine EW.callT1 (In_spec _ _ _ _ _ (hs.sl 1 rfl) (by omega)) rfl rfl rfl rfl rfl Tryz.func22 bd22 nm22 rfl ?_
            intro v54 w hk54 hp54
            subst hp54
            replace hs := hs.stay hk54
            have g5 := g4.keep hk54 (fun h => h)
            refine EW.done ?_
            refine NW.seq ?_
            refine KW.cond rfl (fun h2 => ?_) (fun h2 => ?_)
            · skip
              have h2' : ys1[j] ∈ ys2 := by simpa using h2
              refine CW.region (S := noS) [(0, .q), (1, .q), (2, .q), (3, .q), (4, .q), (5, .l), (6, .l), (7, .q)] rfl ?_
              refine EW.move rfl rfl rfl rfl rfl rfl ?_
              refine EW.move rfl rfl rfl rfl rfl rfl ?_
              refine EW.move rfl rfl rfl rfl rfl rfl ?_
              refine EW.indexAddr rfl rfl rfl rfl rfl rfl rfl (by omega) (by omega) ?_
              refine EW.loadP rfl rfl rfl rfl rfl rfl (by first | with_reducible exact hgE _ hs.keep | with_reducible exact hgN _ hs.keep | assumption | (apply LDP.drew; assumption) | exact St.ld1 hs 0 rfl rfl | exact St.ldA hs 0 rfl rfl rfl | exact St.ld1 hs 1 rfl rfl | exact St.ldA hs 1 rfl rfl rfl | exact St.ld1 hs 2 rfl rfl | exact St.ldA hs 2 rfl rfl rfl | exact St.ld1 hs 3 rfl rfl | exact St.ldA hs 3 rfl rfl rfl | exact St.ld1 hs 4 rfl rfl | exact St.ldA hs 4 rfl rfl rfl | exact St.ld1 hs 5 rfl rfl | exact St.ldA hs 5 rfl rfl rfl | exact St.ld1 hs 6 rfl rfl | exact St.ldA hs 6 rfl rfl rfl) (by first | exact .inl rfl | exact .inr (fun h => h)) ?_
              refine EW.lit1 elL (ys1[j]) hs rfl rfl rfl rfl rfl rfl rfl ?_
              clear hs; intro b60 w hs
              first | refine EW.append1 elL 1 0 hs rfl rfl (by show _ * 32 ≤ 140737488355328; omega) (.inl rfl) rfl rfl rfl rfl rfl rfl rfl ?_ | refine EW.append1 elL 2 0 hs rfl rfl (by show _ * 32 ≤ 140737488355328; omega) (.inl rfl) rfl rfl rfl rfl rfl rfl rfl ?_ | refine EW.append1 elL 3 0 hs rfl rfl (by show _ * 32 ≤ 140737488355328; omega) (.inl rfl) rfl rfl rfl rfl rfl rfl rfl ?_ | refine EW.append1 elL 4 0 hs rfl rfl (by show _ * 32 ≤ 140737488355328; omega) (.inl rfl) rfl rfl rfl rfl rfl rfl rfl ?_ | refine EW.append1 elL 5 0 hs rfl rfl (by show _ * 32 ≤ 140737488355328; omega) (.inl rfl) rfl rfl rfl rfl rfl rfl rfl ?_ | refine EW.append1 elL 6 0 hs rfl rfl (by show _ * 32 ≤ 140737488355328; omega) (.inl rfl) rfl rfl rfl rfl rfl rfl rfl ?_ | refine EW.append1 elL 7 0 hs rfl rfl (by show _ * 32 ≤ 140737488355328; omega) (.inl rfl) rfl rfl rfl rfl rfl rfl rfl ?_
              clear hs; intro v61 w hs; dsimp only [List.set] at hs; replace hs := hs.tail
              refine EW.assign rfl rfl rfl rfl rfl rfl ?_
              refine EW.done ?_
              refine NW.blk ?_
              refine NW.seq ?_
              refine CW.region (S := noS) [(0, .q), (1, .q), (2, .q)] rfl ?_
              refine EW.move rfl rfl rfl rfl rfl rfl ?_
              refine EW.bin rfl rfl rfl rfl rfl rfl rfl (BV.add (wrap_i64 (by omega) (by omega))) ?_
              refine EW.assign rfl rfl rfl rfl rfl rfl ?_
              refine EW.done ?_
              refine NW.again ((j + 1, v61)) (by first | (dsimp only; omega) | omega | (simp; omega)) (by repeat (first | exact trivial | (refine ⟨by first | rfl | (congr 2; omega) | (simp; done) | (congr 1; simp; done), ?_⟩))) ?_
              try dsimp only
              refine ⟨hlj, ?_⟩
              rw [hstep, if_pos h2']; exact hs
            · skip
              have h2' : ys1[j] ∉ ys2 := by simpa using h2
              refine KW.skip ?_
              refine NW.blk ?_
              refine NW.seq ?_
              refine CW.region (S := noS) [(0, .q), (1, .q), (2, .q)] rfl ?_
              refine EW.move rfl rfl rfl rfl rfl rfl ?_
              refine EW.bin rfl rfl rfl rfl rfl rfl rfl (BV.add (wrap_i64 (by omega) (by omega))) ?_
              refine EW.assign rfl rfl rfl rfl rfl rfl ?_
              refine EW.done ?_
              refine NW.again ((j + 1, v)) (by first | (dsimp only; omega) | omega | (simp; omega)) (by repeat (first | exact trivial | (refine ⟨by first | rfl | (congr 2; omega) | (simp; done) | (congr 1; simp; done), ?_⟩))) ?_
              try dsimp only
              refine ⟨hlj, ?_⟩
              rw [hstep, if_neg h2']; exact hs
          · refine CW.cond_f rfl (by simpa using hlj) ?_
            have hj' : j = ys1.length := by omega
            subst hj'
            rw [List.take_length] at hs
            refine KW.exit ?_
            refine XW.seq ?_
            refine XW.inv ?_
            refine XW.blk ?_
            refine NW.meet ((v, ys1.filter (fun a => decide (a ∈ ys2)))) (by repeat (first | exact trivial | (refine ⟨by first | rfl | (congr 2; omega) | (simp; done) | (congr 1; simp; done), ?_⟩))) ?_
            try dsimp only
            exact ⟨rfl, hs.pick [0, 3, 4, 5, 6] (by decide)⟩
        · skip
          clear hs
          rintro ⟨v9, part⟩ w ⟨hpart, hs⟩
          dsimp only at hpart hs
          have hpl2 : part.length ≤ 2000 := by rw [hpart]; exact Nat.le_trans (List.length_filter_le _ _) hys1
          obtain ⟨A9, c9, rfl, _⟩ := own_sl (hs.res 0 rfl)
          refine KW.seq ?_
          refine CW.region (S := noS) [(0, .q), (1, .q), (2, .l), (3, .q)] rfl ?_
          refine EW.move rfl rfl rfl rfl rfl rfl ?_
          refine EW.move rfl rfl rfl rfl rfl rfl ?_
          refine EW.appendAny elL 3 (ys := part) hs rfl (hs.sl 0 rfl) (by show (done.length + part.length) * 32 ≤ 140737488355328; omega) (.inl rfl) rfl rfl rfl rfl rfl rfl rfl ?_
          clear hs; intro v64 w hs; dsimp only [List.set] at hs
          refine EW.assign rfl rfl rfl rfl rfl rfl ?_
          refine EW.done ?_
          refine NW.seq ?_
          refine CW.region (S := noS) [(0, .q), (1, .q), (2, .l), (3, .l), (4, .q)] rfl ?_
          refine EW.move rfl rfl rfl rfl rfl rfl ?_
          refine EW.move rfl rfl rfl rfl rfl rfl ?_
          refine EW.lit1 elP ((A9, part.length, c9)) hs rfl rfl rfl rfl rfl rfl rfl ?_
          clear hs; intro b67 w hs
          refine EW.append1 elP 2 0 hs rfl rfl (by show ((ps.map (·.1)).length + 1) * 24 ≤ 140737488355328; rw [List.length_map]; omega) (.inl rfl) rfl rfl rfl rfl rfl rfl rfl ?_
          clear hs; intro v68 w hs; dsimp only [List.set] at hs; replace hs := hs.tail
          refine EW.assign rfl rfl rfl rfl rfl rfl ?_
          refine EW.done ?_
          refine NW.blk ?_
          refine NW.seq ?_
          refine CW.region (S := noS) [(0, .q), (1, .q), (2, .q)] rfl ?_
          refine EW.move rfl rfl rfl rfl rfl rfl ?_
          refine EW.bin rfl rfl rfl rfl rfl rfl rfl (BV.add (wrap_i64 (by omega) (by omega))) ?_
          refine EW.assign rfl rfl rfl rfl rfl rfl ?_
          refine EW.done ?_
          refine NW.again ((k + 1, v68, v64, ps ++ [((A9, part.length, c9), part)], done ++ part)) (by first | (dsimp only; omega) | omega | (simp; omega)) (by repeat (first | exact trivial | (refine ⟨by first | rfl | (congr 2; omega) | (simp; done) | (congr 1; simp; done), ?_⟩))) ?_
          try dsimp only
          have e1 : (fun a => a ∈ [x] ∧ a ∈ g.N) = (fun a => a = x) := by
            funext a
            simp only [List.mem_singleton, eq_iff_iff]
            exact ⟨fun h => h.1, fun h => ⟨h, h ▸ hxN⟩⟩
          rw [e1] at hm1 hm2
          have hmem : ∀ c, c ∈ part ↔ Rc g.E x c ∧ Rc g.E c x := fun c => by
            rw [hpart, List.mem_filter, hm1]
            simp only [decide_eq_true_eq, hm2]
            exact ⟨fun h => ⟨h.1, Rc.unback h.2⟩, fun h => ⟨h.1, Rc.back h.2⟩⟩
          have hinN : ∀ c ∈ part, c ∈ all := fun c hc => by
            rw [hr2]
            cases ((hmem c).1 hc).1 with
            | base y hy => subst hy; exact hxN
            | step y z _ he => exact (hwf _ he).2
          have hso : SortedL all := hr1
          rw [hdrop] at hso
          obtain ⟨hp1, hp2, hp3⟩ := List.pairwise_append.1 hso
          refine ⟨hlt, ?_, ?_, ?_, ?_, ?_⟩
          · rw [htk, List.map_append]
            refine hpu.add hnot (fun a ha => hp3 a ha x (by simp)) (fun a ha => (List.pairwise_cons.1 hp2).1 a ha) (by show SortedL part; rw [hpart]; exact hso1.filter _) hmem (fun c hc => ?_)
            have := hinN c hc
            rw [hdrop] at this
            rcases List.mem_append.1 this with h | h
            · exact .inl h
            · exact .inr (List.mem_cons.1 h)
          · intro a
            rw [List.mem_append, hdn, List.map_append]
            constructor
            · rintro (⟨p, hp, ha⟩ | h)
              · exact ⟨p, by simp only [List.mem_append]; exact .inl hp, ha⟩
              · exact ⟨part, by simp, h⟩
            · rintro ⟨p, hp, ha⟩
              rcases List.mem_append.1 hp with h | h
              · exact .inl ⟨p, h, ha⟩
              · simp at h; subst h; exact .inr ha
          · rw [List.length_append, Nat.add_mul]; omega
          · rw [List.length_append]; exact Nat.succ_le_succ hpl
          · rw [List.map_append]
            have hs2 := hs.pick [2, 0, 1, 3, 4] (by decide)
            simp only [List.filterMap_cons, List.filterMap_nil, List.getElem?_cons_succ, List.getElem?_cons_zero] at hs2
            have hs3 := St.rowAdd (s := (A9, part.length, c9)) hs2
            exact hs3.pick [1, 0, 2, 3] (by decide)
  · refine CW.cond_f rfl (by simpa using hlt) ?_
    have hk' : k = all.length := by omega
    subst hk'
    rw [List.take_length] at hpu
    refine KW.exit ?_
    refine XW.seq ?_
    refine XW.inv ?_
    refine XW.blk ?_
    refine NW.seq ?_
    refine KW.seq ?_
    refine CW.region (S := noS) [(0, .q), (1, .q)] rfl ?_
    refine EW.move rfl rfl rfl rfl rfl rfl ?_
    refine EW.assign rfl rfl rfl rfl rfl rfl ?_
    refine EW.done ?_
    refine NW.seq ?_
    refine KW.ret1 rfl rfl ?_
    refine ⟨_, rfl, hs.keep, ?_⟩
    exact ⟨_, hpu.parts (fun a => (hr2 a).symm) hwf, ps, rfl, hs.pick [0, 1] (by decide)⟩
end Go.Cw.Tryz
set_option linter.unusedVariables false
set_option linter.unusedSimpArgs false
namespace Go.Cw.Tryz
open Go.Proofs Go.Cw
attribute [local irreducible] Go.Addr.add

/-- Does a part hold a circle? -/
def holdsC (E : List Edg) (p : List Lab) : Bool := decide (1 < p.length) || (match p with | [] => false | a :: _ => decide ((a, a) ∈ E))
def firstC (E : List Edg) (xss : List (List Lab)) : List Lab × Bool := match xss.find? (holdsC E) with
  | some p => (p, true)
  | none => ([], false)
def FirstPost (w0 : World) (r : List Lab × Bool) (v : Value) (w' : World) : Prop := ∃ s : SV, v = .tuple #[svV s, .bool r.2] ∧ St w0 noS w' [own elL (svV s) r.1]

theorem RFirst_spec (w0 : World) (b : Nat) (AN : Option Addr) (cN : Nat) (AE : Option Addr) (cE : Nat) (g : RG) (hg : RGA w0 b AN cN AE cE g) (hsm : g.Sm 1000) (hwf : g.Wf) :
    T1 Tryz.prog 10 [.pointer (some ⟨b, 0, none⟩)] w0 fun v w' => ∃ xss, IsParts g.N g.E xss ∧ FirstPost w0 (firstC g.E xss) v w' := by
  refine KW.enterT1 (n := 41) Tryz.func10 rfl rfl rfl ?_
  have hs := St.init w0 noS
  have hel := hsm.e
  have hnl := hsm.n
  refine KW.seq ?_
  refine CW.region (S := noS) [(0, .q), (1, .q)] rfl ?_
  refine EW.assign rfl rfl rfl rfl rfl rfl ?_
  refine EW.assign rfl rfl rfl rfl rfl rfl ?_
  refine EW.done ?_
  refine NW.seq ?_
  refine KW.seq ?_
  refine CW.region (S := noS) [(0, .q), (1, .l), (2, .q)] rfl ?_
  refine EW.move rfl rfl rfl rfl rfl rfl ?_
  refine EW.callT1 (RParts_spec _ b _ _ _ _ g (hg.stay hs.keep) hsm hwf) rfl rfl rfl rfl rfl Tryz.func12 bd12 nm12 rfl ?_
  intro v7 w hk7 hp7
  obtain ⟨xss, hip, ps, rfl, hst⟩ := hp7
  replace hs := hs.plus hst
  simp only [List.cons_append, List.nil_append] at hs
  obtain ⟨A7, c7, rfl, _⟩ := own_sl (hs.res 0 rfl)
  have hpl : ps.length ≤ 1000 := by
    have h1 : (ps.map (·.2)).length ≤ g.N.length := by
      have h2 := nodup_sub_len ((ps.map (·.2)).filterMap List.head?) g.N (by
        rw [List.Nodup, List.pairwise_filterMap]
        refine hip.order.imp ?_
        intro p q h a ha b hb e
        subst e
        have := h a ha a hb
        rw [lt_irrefl] at this; cases this) (fun a ha => by
        obtain ⟨p, hp, hpa⟩ := List.mem_filterMap.1 ha
        refine (hip.all a).2 ⟨p, hp, ?_⟩
        cases p with
        | nil => simp at hpa
        | cons y t => simp at hpa; subst hpa; simp)
      have h3 : ((ps.map (·.2)).filterMap List.head?).length = (ps.map (·.2)).length := by
        have : ∀ l : List (List Lab), (∀ p ∈ l, p ≠ []) → (l.filterMap List.head?).length = l.length := by
          intro l
          induction l with
          | nil => simp
          | cons p r ih =>
            intro h
            cases p with
            | nil => exact absurd rfl (h [] (by simp))
            | cons y t => simp [List.filterMap_cons, ih fun q hq => h q (by simp [hq])]
        exact this _ hip.ne
      omega
    simpa using Nat.le_trans h1 hnl
  have hml : (ps.map (·.1)).length = ps.length := by simp
  refine EW.assign rfl rfl rfl rfl rfl rfl ?_
  refine EW.done ?_
  refine NW.seq ?_
  refine KW.seq ?_
  refine KW.seq ?_
  refine CW.region (S := noS) [(0, .q)] rfl ?_
  refine EW.assign rfl rfl rfl rfl rfl rfl ?_
  refine EW.done ?_
  refine NW.seq ?_
  refine KW.block ?_
  refine KW.loop (ι := Nat) (fun k => ps.length - k) (fun k => [(0, .pointer (some ⟨b, 0, none⟩)), (4, .slice A7 (ps.map (·.1)).length c7), (5, .int .i64 (k : Int))]) (fun k w => k ≤ ps.length ∧ (∀ p ∈ (ps.map (·.2)).take k, holdsC g.E p = false) ∧ St w0 noS w [own elP (.slice A7 (ps.map (·.1)).length c7) (ps.map (·.1)), rows elL ps]) 0 (by repeat (first | exact trivial | (refine ⟨by first | rfl | (congr 2; omega) | (simp; done) | (congr 1; simp; done), ?_⟩))) ?_ ?_
  · exact ⟨Nat.zero_le _, by simp, hs⟩
  clear hs
  rintro k w ⟨hk, hno, hs⟩
  refine KW.seq ?_
  refine KW.seq ?_
  refine CW.region (S := noS) [(0, .q), (1, .q), (2, .q), (3, .q)] rfl ?_
  refine EW.move rfl rfl rfl rfl rfl rfl ?_
  refine EW.move rfl rfl rfl rfl rfl rfl ?_
  refine EW.len rfl rfl rfl rfl rfl rfl ?_
  refine EW.bin rfl rfl rfl rfl rfl rfl rfl BV.lss ?_
  refine EW.done ?_
  refine NW.seq ?_
  by_cases hlt : k < ps.length
  · refine CW.cond_t rfl (by rw [hml]; simpa using hlt) ?_
    obtain ⟨ao, rfl, _, hld⟩ := (hs.sl 0 rfl).at_ (i := k) (by rw [hml]; exact hlt)
    obtain ⟨⟨⟨Ai, ni, ci⟩, pk⟩, hpk⟩ : ∃ p, ps[k]? = some p := ⟨ps[k], by simp⟩
    obtain ⟨hsli, hni, hci⟩ := hs.rowSl 1 rfl hpk
    dsimp only at hsli hni hci
    subst hni
    have hpm : pk ∈ ps.map (·.2) := List.mem_map.2 ⟨_, List.mem_of_getElem? hpk, rfl⟩
    have hne : pk ≠ [] := hip.ne pk hpm
    obtain ⟨x, hx⟩ : ∃ x, pk[0]? = some x := by
      cases hpe : pk with
      | nil => exact absurd hpe hne
      | cons y t => exact ⟨y, by simp⟩
    have hpos : 0 < pk.length := List.length_pos_iff.2 hne
    obtain ⟨ai, rfl, _, hldi⟩ := hsli.at_ hpos
    have hxm : x ∈ pk := List.mem_of_getElem? hx
    have htk : (ps.map (·.2)).take (k + 1) = (ps.map (·.2)).take k ++ [pk] := by
      rw [List.take_add_one, List.getElem?_map, hpk]; rfl
    have hfind : holdsC g.E pk = true → firstC g.E (ps.map (·.2)) = (pk, true) := fun h => by
      have e : ps.map (·.2) = (ps.map (·.2)).take k ++ pk :: (ps.map (·.2)).drop (k + 1) := by
        have h := (List.take_append_drop (k + 1) (ps.map (·.2))).symm
        rw [htk, List.append_assoc] at h
        exact h
      unfold firstC
      rw [e, List.find?_append, List.find?_eq_none.2 (fun p hp => by simp [hno p hp])]
      simp [h]
    have g1 : LDP Tryz.prog w 30 (ao.add ((k : Int).toNat * 1)) (.slice (some ai) pk.length ci) := hld k (some ai, pk.length, ci) (by rw [List.getElem?_map, hpk]; rfl)
    have g2 : LDP Tryz.prog w 44 (ai.add ((0 : Int).toNat * 2)) (encL x) := hldi 0 x hx
    have hhc : holdsC g.E pk = (decide (1 < pk.length) || decide ((x, x) ∈ g.E)) := by
      unfold holdsC
      cases pk with
      | nil => exact absurd rfl hne
      | cons y t => simp at hx; subst hx; rfl
    refine KW.skip ?_
    refine NW.seq ?_
    refine KW.seq ?_
    refine KW.block ?_
    refine KW.seq ?_
    refine CW.regionD (noS) [(0, .q), (1, .q), (2, .q), (3, .q), (4, .q), (5, .q), (6, .q), (7, .q), (8, .q), (9, .q), (10, .q), (11, .q), (12, .q), (13, .q), (15, .q), (16, .q), (17, .q), (18, .q), (19, .q), (20, .q), (14, .l), (21, .l), (22, .q)] mixed (by kernel_rfl) ?_
    replace hs := hs.drew
    refine EW.move rfl rfl rfl rfl rfl rfl ?_
    refine EW.move rfl rfl rfl rfl rfl rfl ?_
    refine EW.indexAddr rfl rfl rfl rfl rfl rfl rfl (by omega) (by omega) ?_
    refine EW.loadP rfl rfl rfl rfl rfl rfl (by first | assumption | (apply LDP.drew; assumption) | exact St.ld1 hs 0 rfl rfl | exact St.ldA hs 0 rfl rfl rfl | exact St.ld1 hs 1 rfl rfl | exact St.ldA hs 1 rfl rfl rfl | exact St.ld1 hs 2 rfl rfl | exact St.ldA hs 2 rfl rfl rfl | exact St.ld1 hs 3 rfl rfl | exact St.ldA hs 3 rfl rfl rfl | exact St.ld1 hs 4 rfl rfl | exact St.ldA hs 4 rfl rfl rfl | exact St.ld1 hs 5 rfl rfl | exact St.ldA hs 5 rfl rfl rfl | exact St.ld1 hs 6 rfl rfl | exact St.ldA hs 6 rfl rfl rfl) (by first | exact .inl rfl | exact .inr (fun h => h)) ?_
    refine EW.len rfl rfl rfl rfl rfl rfl ?_
    refine EW.bin rfl rfl rfl rfl rfl rfl rfl BV.gtr ?_
    refine EW.move rfl rfl rfl rfl rfl rfl ?_
    refine EW.caseB (fun h1 => ?_) (fun h1 => ?_)
    · skip
      have h1' : 1 < pk.length := by simp at h1; omega
      refine EW.off rfl rfl rfl rfl ?_
      refine EW.off rfl rfl rfl rfl ?_
      refine EW.off rfl rfl rfl rfl ?_
      refine EW.off rfl rfl rfl rfl ?_
      refine EW.off rfl rfl rfl rfl ?_
      refine EW.off rfl rfl rfl rfl ?_
      refine EW.off rfl rfl rfl rfl ?_
      refine EW.off rfl rfl rfl rfl ?_
      refine EW.off rfl rfl rfl rfl ?_
      refine EW.off rfl rfl rfl rfl ?_
      refine EW.off rfl rfl rfl rfl ?_
      refine EW.off rfl rfl rfl rfl ?_
      refine EW.off rfl rfl rfl rfl ?_
      refine EW.off rfl rfl rfl rfl ?_
      refine EW.off rfl rfl rfl rfl ?_
      refine EW.pick rfl rfl rfl rfl rfl rfl rfl ?_
      refine EW.done ?_
      refine NW.seq ?_
      refine CW.cond_t rfl (rfl) ?_
      refine KW.seq ?_
      refine CW.region (S := noS) [(0, .q), (1, .q), (2, .q), (3, .q), (4, .q), (5, .q)] rfl ?_
      refine EW.move rfl rfl rfl rfl rfl rfl ?_
      refine EW.move rfl rfl rfl rfl rfl rfl ?_
      refine EW.indexAddr rfl rfl rfl rfl rfl rfl rfl (by omega) (by omega) ?_
      refine EW.loadP rfl rfl rfl rfl rfl rfl (by first | assumption | (apply LDP.drew; assumption) | exact St.ld1 hs 0 rfl rfl | exact St.ldA hs 0 rfl rfl rfl | exact St.ld1 hs 1 rfl rfl | exact St.ldA hs 1 rfl rfl rfl | exact St.ld1 hs 2 rfl rfl | exact St.ldA hs 2 rfl rfl rfl | exact St.ld1 hs 3 rfl rfl | exact St.ldA hs 3 rfl rfl rfl | exact St.ld1 hs 4 rfl rfl | exact St.ldA hs 4 rfl rfl rfl | exact St.ld1 hs 5 rfl rfl | exact St.ldA hs 5 rfl rfl rfl | exact St.ld1 hs 6 rfl rfl | exact St.ldA hs 6 rfl rfl rfl) (by first | exact .inl rfl | exact .inr (fun h => h)) ?_
      refine EW.assign rfl rfl rfl rfl rfl rfl ?_
      refine EW.assign rfl rfl rfl rfl rfl rfl ?_
      refine EW.done ?_
      refine NW.seq ?_
      refine KW.ret2 rfl rfl rfl ?_
      refine ⟨_, rfl, hs.keep, ?_⟩
      refine ⟨_, hip, ?_⟩
      rw [hfind (by rw [hhc]; simp [h1'])]
      exact ⟨(some ai, pk.length, ci), rfl, (hs.pick [1] (by decide)).rowOut hpk⟩
    · skip
      have h1' : ¬ 1 < pk.length := by simp at h1; omega
      have hol : (risingL (outOf g.E x)).length ≤ 1000 := Nat.le_trans (length_risingL _) (Nat.le_trans (outOf_len _ _) hel)
      refine EW.move rfl rfl rfl rfl rfl rfl ?_
      refine EW.move rfl rfl rfl rfl rfl rfl ?_
      refine EW.move rfl rfl rfl rfl rfl rfl ?_
      refine EW.indexAddr rfl rfl rfl rfl rfl rfl rfl (by omega) (by omega) ?_
      refine EW.loadP rfl rfl rfl rfl rfl rfl (by first | assumption | (apply LDP.drew; assumption) | exact St.ld1 hs 0 rfl rfl | exact St.ldA hs 0 rfl rfl rfl | exact St.ld1 hs 1 rfl rfl | exact St.ldA hs 1 rfl rfl rfl | exact St.ld1 hs 2 rfl rfl | exact St.ldA hs 2 rfl rfl rfl | exact St.ld1 hs 3 rfl rfl | exact St.ldA hs 3 rfl rfl rfl | exact St.ld1 hs 4 rfl rfl | exact St.ldA hs 4 rfl rfl rfl | exact St.ld1 hs 5 rfl rfl | exact St.ldA hs 5 rfl rfl rfl | exact St.ld1 hs 6 rfl rfl | exact St.ldA hs 6 rfl rfl rfl) (by first | exact .inl rfl | exact .inr (fun h => h)) ?_
      refine EW.indexAddr rfl rfl rfl rfl rfl rfl rfl (by omega) (by omega) ?_
      refine EW.loadP rfl rfl rfl rfl rfl rfl (by first | assumption | (apply LDP.drew; assumption) | exact St.ld1 hs 0 rfl rfl | exact St.ldA hs 0 rfl rfl rfl | exact St.ld1 hs 1 rfl rfl | exact St.ldA hs 1 rfl rfl rfl | exact St.ld1 hs 2 rfl rfl | exact St.ldA hs 2 rfl rfl rfl | exact St.ld1 hs 3 rfl rfl | exact St.ldA hs 3 rfl rfl rfl | exact St.ld1 hs 4 rfl rfl | exact St.ldA hs 4 rfl rfl rfl | exact St.ld1 hs 5 rfl rfl | exact St.ldA hs 5 rfl rfl rfl | exact St.ld1 hs 6 rfl rfl | exact St.ldA hs 6 rfl rfl rfl) (by first | exact .inl rfl | exact .inr (fun h => h)) ?_
      refine EW.move rfl rfl rfl rfl rfl rfl ?_
      refine EW.move rfl rfl rfl rfl rfl rfl ?_
      refine EW.indexAddr rfl rfl rfl rfl rfl rfl rfl (by omega) (by omega) ?_
      refine EW.loadP rfl rfl rfl rfl rfl rfl (by first | assumption | (apply LDP.drew; assumption) | exact St.ld1 hs 0 rfl rfl | exact St.ldA hs 0 rfl rfl rfl | exact St.ld1 hs 1 rfl rfl | exact St.ldA hs 1 rfl rfl rfl | exact St.ld1 hs 2 rfl rfl | exact St.ldA hs 2 rfl rfl rfl | exact St.ld1 hs 3 rfl rfl | exact St.ldA hs 3 rfl rfl rfl | exact St.ld1 hs 4 rfl rfl | exact St.ldA hs 4 rfl rfl rfl | exact St.ld1 hs 5 rfl rfl | exact St.ldA hs 5 rfl rfl rfl | exact St.ld1 hs 6 rfl rfl | exact St.ldA hs 6 rfl rfl rfl) (by first | exact .inl rfl | exact .inr (fun h => h)) ?_
      refine EW.indexAddr rfl rfl rfl rfl rfl rfl rfl (by omega) (by omega) ?_
      refine EW.loadP rfl rfl rfl rfl rfl rfl (by first | assumption | (apply LDP.drew; assumption) | exact St.ld1 hs 0 rfl rfl | exact St.ldA hs 0 rfl rfl rfl | exact St.ld1 hs 1 rfl rfl | exact St.ldA hs 1 rfl rfl rfl | exact St.ld1 hs 2 rfl rfl | exact St.ldA hs 2 rfl rfl rfl | exact St.ld1 hs 3 rfl rfl | exact St.ldA hs 3 rfl rfl rfl | exact St.ld1 hs 4 rfl rfl | exact St.ldA hs 4 rfl rfl rfl | exact St.ld1 hs 5 rfl rfl | exact St.ldA hs 5 rfl rfl rfl | exact St.ld1 hs 6 rfl rfl | exact St.ldA hs 6 rfl rfl rfl) (by first | exact .inl rfl | exact .inr (fun h => h)) ?_
      refine EW.callT1 (ROut_spec _ b _ _ _ _ g x (hg.stay hs.keep) hsm) rfl rfl rfl rfl rfl Tryz.func17 bd17 nm17 rfl ?_
      intro v28 w hk28 hp28
      replace hs := hs.plus (hp28.st hk28)
      simp only [List.cons_append, List.nil_append] at hs
      obtain ⟨A28, c28, rfl, _⟩ := own_sl (hs.res 0 rfl)
      refine EW.callT1 (In_spec _ _ _ _ _ (hs.sl 0 rfl) (by omega)) rfl rfl rfl rfl rfl Tryz.func22 bd22 nm22 rfl ?_
      intro v35 w hk35 hp35
      subst hp35
      replace hs := hs.stay hk35
      refine EW.pick rfl rfl rfl rfl rfl rfl rfl ?_
      refine EW.done ?_
      refine NW.seq ?_
      have hmemx : x ∈ risingL (outOf g.E x) ↔ (x, x) ∈ g.E := by rw [(rising_spec _).2, outOf_mem]
      refine KW.cond rfl (fun h2 => ?_) (fun h2 => ?_)
      · skip
        have h2' : (x, x) ∈ g.E := hmemx.1 (by simpa using h2)
        obtain ⟨ao', hao', _, hld'⟩ := (hs.sl 1 rfl).at_ (i := k) (by rw [hml]; exact hlt)
        injection hao' with hao'; subst hao'
        have g3 : LDP Tryz.prog _ 30 (ao.add ((k : Int).toNat * 1)) (.slice (some ai) pk.length ci) := hld' k (some ai, pk.length, ci) (by rw [List.getElem?_map, hpk]; rfl)
        refine KW.seq ?_
        refine CW.region (S := noS) [(0, .q), (1, .q), (2, .q), (3, .q), (4, .q), (5, .q)] rfl ?_
        refine EW.move rfl rfl rfl rfl rfl rfl ?_
        refine EW.move rfl rfl rfl rfl rfl rfl ?_
        refine EW.indexAddr rfl rfl rfl rfl rfl rfl rfl (by omega) (by omega) ?_
        refine EW.loadP rfl rfl rfl rfl rfl rfl (by first | assumption | (apply LDP.drew; assumption) | exact St.ld1 hs 0 rfl rfl | exact St.ldA hs 0 rfl rfl rfl | exact St.ld1 hs 1 rfl rfl | exact St.ldA hs 1 rfl rfl rfl | exact St.ld1 hs 2 rfl rfl | exact St.ldA hs 2 rfl rfl rfl | exact St.ld1 hs 3 rfl rfl | exact St.ldA hs 3 rfl rfl rfl | exact St.ld1 hs 4 rfl rfl | exact St.ldA hs 4 rfl rfl rfl | exact St.ld1 hs 5 rfl rfl | exact St.ldA hs 5 rfl rfl rfl | exact St.ld1 hs 6 rfl rfl | exact St.ldA hs 6 rfl rfl rfl) (by first | exact .inl rfl | exact .inr (fun h => h)) ?_
        refine EW.assign rfl rfl rfl rfl rfl rfl ?_
        refine EW.assign rfl rfl rfl rfl rfl rfl ?_
        refine EW.done ?_
        refine NW.seq ?_
        refine KW.ret2 rfl rfl rfl ?_
        refine ⟨_, rfl, hs.keep, ?_⟩
        refine ⟨_, hip, ?_⟩
        rw [hfind (by rw [hhc]; simp [h2'])]
        exact ⟨(some ai, pk.length, ci), rfl, (hs.pick [2] (by decide)).rowOut hpk⟩
      · skip
        have h2' : (x, x) ∉ g.E := fun h => by rw [decide_eq_true (hmemx.2 h)] at h2; cases h2
        refine KW.skip ?_
        refine NW.blk ?_
        refine NW.seq ?_
        refine CW.region (S := noS) [(0, .q), (1, .q), (2, .q)] rfl ?_
        refine EW.move rfl rfl rfl rfl rfl rfl ?_
        refine EW.bin rfl rfl rfl rfl rfl rfl rfl (BV.add (wrap_i64 (by omega) (by omega))) ?_
        refine EW.assign rfl rfl rfl rfl rfl rfl ?_
        refine EW.done ?_
        refine NW.again (k + 1) (by first | (dsimp only; omega) | omega | (simp; omega)) (by repeat (first | exact trivial | (refine ⟨by first | rfl | (congr 2; omega) | (simp; done) | (congr 1; simp; done), ?_⟩))) ?_
        try dsimp only
        refine ⟨hlt, fun p hp => ?_, hs.pick [1, 2] (by decide)⟩
        rw [htk] at hp
        rcases List.mem_append.1 hp with h | h
        · exact hno p h
        · rw [List.mem_singleton.1 h, hhc]; simp [h1', h2']
  · refine CW.cond_f rfl (by rw [hml]; simpa using hlt) ?_
    have hk' : k = ps.length := by omega
    subst hk'
    rw [List.take_of_length_le (by simp)] at hno
    refine KW.exit ?_
    refine XW.seq ?_
    refine XW.inv ?_
    refine XW.blk ?_
    refine NW.seq ?_
    refine KW.seq ?_
    refine CW.region (S := noS) [(0, .q), (1, .q)] rfl ?_
    refine EW.assign rfl rfl rfl rfl rfl rfl ?_
    refine EW.assign rfl rfl rfl rfl rfl rfl ?_
    refine EW.done ?_
    refine NW.seq ?_
    refine KW.ret2 rfl rfl rfl ?_
    refine ⟨_, rfl, hs.keep, ?_⟩
    refine ⟨_, hip, ?_⟩
    have : firstC g.E (ps.map (·.2)) = ([], false) := by
      unfold firstC
      rw [List.find?_eq_none.2 (fun p hp => by simp [hno p hp])]
    rw [this]
    exact ⟨(none, 0, 0), rfl, (hs.nil elL).pick [0] (by decide)⟩
end Go.Cw.Tryz
