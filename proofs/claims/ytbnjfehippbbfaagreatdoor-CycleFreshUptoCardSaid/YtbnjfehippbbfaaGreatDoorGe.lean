/- Proved here, as a part of the claim: how the code of the program walks (CwN, CwO, CwP, CwQ, CwR, CwS, CwU, CwV, CwX, CwY, CwZ, CwAA, CwAB, CwAC, CwAD, CwAE, CwAF, CwAG). -/
import Derived.Test.YtbnjfehippbbfaaGreatDoorGd
import Derived.Test.YtbnjfehippbbfaaGreatDoorGc
import Derived.Ground.NamesProg
import Derived.Shelf.Strings.Split
import Derived.Sort.Grow
import Derived.Shelf.Small.Strs
import Derived.Test.YtbnjfehippbbfaaGreatDoorGb
import Derived.Ground.SlsfProg
set_option linter.unusedVariables false
set_option linter.unusedSimpArgs false
namespace Go.Cw
open Go.Proofs
theorem T1.of_calls {P : Program} {f : Nat} {args : List Value} {w : World} {v : Value} {R : World → Prop} {Post : Value → World → Prop} (h : Calls P f args.toArray w fun e w' => e = .returned v ∧ R w') (hk : ∀ w', R w' → Keep noS w w') (hp : ∀ w', R w' → Post v w') : T1 P f args w Post :=
  Calls.mono h fun e w' ⟨he, hr⟩ => ⟨v, he, hk w' hr, hp w' hr⟩
theorem Keep.grow {w w' : World} (h : Keep noS w w') : ∃ q os', w' = Go.Sort.grow (w.drewN q) os' := by
  refine ⟨w'.drawn - w.drawn, w'.heap.extract w.heap.size w'.heap.size, ?_⟩
  obtain ⟨hp, tp, dr, os, out⟩ := w'
  obtain ⟨h1, h2, h3, h4, h5, h6⟩ := h
  dsimp only at h1 h2 h3 h4 h5 h6
  subst h1 h2 h3
  unfold Go.Sort.grow World.drewN
  congr 1
  · dsimp only
    apply Array.ext_getElem?
    intro j
    by_cases hj : j < w.heap.size
    · rw [h6 j hj (fun x => x), Array.getElem?_append_left hj]
    · rw [Array.getElem?_append_right (by omega), Array.getElem?_extract]
      by_cases hj2 : j < hp.size
      · rw [if_pos (by omega)]; congr 1; omega
      · rw [if_neg (by omega), Array.getElem?_eq_none (by omega)]
  · dsimp only; omega
theorem T1.grows {P : Program} {f : Nat} {args : List Value} {w : World} {Post : Value → World → Prop} {v : Value} (h : T1 P f args w Post) (hv : ∀ x w', Post x w' → x = v) : Calls P f args.toArray w fun e w' => e = .returned v ∧ ∃ q os', w' = Go.Sort.grow (w.drewN q) os' :=
  Calls.mono h fun e w' ⟨x, he, hk, hp⟩ => ⟨by rw [he, hv x w' hp], hk.grow⟩

theorem splitK_cons (c : UInt8) (hc : c ≠ 47) : ∀ (k : Nat) (r : List UInt8) (p : List UInt8) (ps : List (List UInt8)), Lib.splitK [47] 0 k r = p :: ps → Lib.splitK [47] 0 k (c :: r) = (c :: p) :: ps
  | 0, r, p, ps, h => by
    simp only [Lib.splitK] at h ⊢
    injection h with h h'; rw [h, h']
  | k + 1, r, p, ps, h => by
    have hp : List.isPrefixOf [47] (c :: r) = false := by simp [List.isPrefixOf]; exact fun h => hc h.symm
    have hi : Lib.index (c :: r) [47] = if Lib.index r [47] == -1 then -1 else Lib.index r [47] + 1 := by
      rw [Lib.index, if_neg (by rw [hp]; decide)]
    have hge := Lib.index_ge r [47]
    by_cases hm : Lib.index r [47] = -1
    · rw [hm] at hi
      simp only [Lib.splitK, hm, hi] at h ⊢
      simp at h ⊢
      exact ⟨by rw [h.1], h.2⟩
    · rw [if_neg (by simpa using hm)] at hi
      have h1 : (Lib.index r [47] + 1 == -1) = false := by
        rw [beq_eq_false_iff_ne]; omega
      have h2 : (Lib.index r [47] == -1) = false := by rw [beq_eq_false_iff_ne]; exact hm
      rw [Lib.splitK, hi, h1]
      rw [Lib.splitK, h2] at h
      have e : (Lib.index r [47] + 1).toNat = (Lib.index r [47]).toNat + 1 := by omega
      simp only [Bool.false_eq_true, if_false, e] at h ⊢
      injection h with ha hb
      rw [← ha, ← hb]
      simp [Nat.add_right_comm]
theorem splitK_splitL : ∀ s : List UInt8, Lib.splitK [47] 0 (Lib.count s [47]) s = splitL s
  | [] => rfl
  | c :: r => by
    have ih := splitK_splitL r
    by_cases hc : c = 47
    · subst hc
      rw [Lib.count_cons_eq, Nat.add_comm, Lib.splitK]
      have : Lib.index (47 :: r) [47] = 0 := by rw [Lib.index, if_pos (by simp [List.isPrefixOf])]
      rw [this]
      simp only [splitL, if_pos]
      simpa using ih
    · rw [Lib.count_cons_ne _ _ _ hc]
      have hne := splitL_ne r
      cases hs : splitL r with
      | nil => exact absurd hs hne
      | cons p ps =>
        rw [hs] at ih
        rw [splitK_cons c hc _ _ _ _ ih]
        simp only [splitL, if_neg hc, hs]
end Go.Cw
namespace Go.Cw.Tryz
open Go.Proofs Go.Cw Go.Shelf
attribute [local irreducible] Go.Addr.add
theorem hiSplit : (Tryz.prog.info? (Tryz.laySplit_ren.t 9)).map (fun i => (i.zero, i.size, i.bytes)) = some (some (.string ByteArray.empty), 1, 16) := by kernel_rfl
/-- The one package-level variable that strings.Split reads. -/
def GL (w : World) : Prop := ∃ m : Int, w.cell? ⟨Tryz.laySplit_ren.g 1, 0, none⟩ = some (.int .i64 m)
theorem GL.keep {S : Nat → Prop} {w w' : World} (h : GL w) (hk : Keep S w w') (hs : ¬ S (Tryz.laySplit_ren.g 1)) : GL w' := h.imp fun m hm => hk.cell hm hs
theorem GL.stay {w w' : World} (h : GL w) (hk : Keep noS w w') : GL w' := h.keep hk fun x => x
theorem GL.lt {w : World} (h : GL w) : Tryz.laySplit_ren.g 1 < w.heap.size := h.elim fun m hm => World.block_lt_of_cell? _ _ hm

theorem fresh_alloc (w : World) (ps : List ByteArray) (n : Nat) (hn : n = ps.length) (hl : ps.length ≤ maxLen) : Fresh elS w (w.alloc (.cells (ps.map Value.string).toArray 9)) (.slice (some ⟨w.heap.size, 0, none⟩) n n) ps := by
  subst hn
  have hf : flat elS ps = ps.map Value.string := by
    induction ps with
    | nil => rfl
    | cons p r ih =>
      have := ih (by simp at hl; omega)
      simp only [flat, List.flatMap_cons, List.map_cons] at this ⊢
      rw [this]; rfl
  refine ⟨?_, fun b hb => ?_⟩
  · have hz : elS.size = 1 := rfl
    refine ⟨by rw [hf]; simp [hz], .inr ⟨w.heap.size, ps.length, (ps.map Value.string).toArray, rfl, Nat.zero_le _, heap_alloc_new w _, Nat.le_refl _, hl, by simp [hz], ?_⟩⟩
    rw [hf]; simp only [hz, Nat.mul_one]; exact List.take_of_length_le (by simp)
  · have : (Value.slice (some ⟨w.heap.size, 0, none⟩) ps.length ps.length).ownBlock = some b := hb
    simp [Value.ownBlock] at this
    omega

theorem Split_calls (w0 : World) (p : ByteArray) (hp : p.size ≤ 1048576) (hne : bl p ≠ []) (hg : GL w0) : T1 Tryz.prog 105 [.string p, .string ⟨#[47]⟩] w0 (SplitPost w0 p) := by
  obtain ⟨m, hm⟩ := hg
  have h := Any.strings_Split Tryz.laySplit hiSplit p ⟨#[47]⟩ m w0 (by omega) hm (by decide)
  have hsz := Lib.splitB_all ⟨#[47]⟩ (by decide) 0 _ p rfl
  have hle := Lib.countB_le ⟨#[47]⟩ (by decide) p.size p (Nat.le_refl _)
  have hcnt : Lib.countB p ⟨#[47]⟩ = Lib.count (bl p) [47] := rfl
  refine T1.of_calls (h.mono fun e w' hh => hh) (fun w' hw => ?_) (fun w' hw => ?_)
  · rw [hw]; exact Keep.alloc _ _
  · refine ⟨Lib.splitB ⟨#[47]⟩ 0 (Lib.countB p ⟨#[47]⟩) p, ?_, ?_⟩
    · have := Lib.splitB_data ⟨#[47]⟩ 0 (Lib.countB p ⟨#[47]⟩) p
      have e : pieces p = splitL (bl p) := by unfold pieces; rw [if_neg hne]
      rw [e, ← splitK_splitL, ← hcnt]; exact this
    · rw [hw]
      have hmx : (1048577 : Nat) ≤ maxLen := by decide
      exact fresh_alloc w0 _ _ hsz.symm (by rw [hsz]; omega)

theorem pathSplit_spec (w0 : World) (p : ByteArray) (hp : p.size ≤ 1048576) (hg : GL w0) : T1 Tryz.prog 88 [.string p] w0 (SplitPost w0 p) := by
  refine KW.enterT1 (n := 7) Tryz.func88 rfl rfl rfl ?_
  have hs := St.init w0 noS
  refine KW.seq ?_
  refine CW.region (S := noS) [(0, .q)] rfl ?_
  refine EW.assign rfl rfl rfl rfl rfl rfl ?_
  refine EW.done ?_
  refine NW.seq ?_
  refine KW.seq ?_
  refine KW.seq ?_
  refine CW.region (S := noS) [(0, .q), (1, .q)] rfl ?_
  refine EW.move rfl rfl rfl rfl rfl rfl ?_
  refine EW.bin rfl rfl rfl rfl rfl rfl rfl BV.eqs ?_
  refine EW.done ?_
  refine NW.seq ?_
  refine KW.cond rfl (fun h0 => ?_) (fun h0 => ?_)
  · skip
    refine KW.seq ?_
    refine CW.region (S := noS) [(0, .q)] rfl ?_
    refine EW.assign rfl rfl rfl rfl rfl rfl ?_
    refine EW.done ?_
    refine NW.seq ?_
    refine KW.ret1 rfl rfl ?_
    refine ⟨_, rfl, hs.keep, ?_⟩
    have : p = ⟨#[]⟩ := by simpa using h0
    subst this
    exact ⟨[], by simp [pieces, bl], Fresh.nil elS _ _⟩
  · skip
    have hne : bl p ≠ [] := fun h => by
      have : p = ⟨#[]⟩ := bl_inj (by rw [h]; rfl)
      simp [this] at h0
    refine KW.skip ?_
    refine NW.seq ?_
    refine KW.seq ?_
    refine CW.region (S := noS) [(0, .q), (1, .l), (2, .q)] rfl ?_
    refine EW.move rfl rfl rfl rfl rfl rfl ?_
    refine EW.callT1 (Split_calls _ p hp hne (hg.stay hs.keep)) rfl rfl rfl rfl rfl Tryz.func105 bd105 nm105 rfl ?_
    intro v6 w hk6 hp6; replace hs := hs.stay hk6
    refine EW.assign rfl rfl rfl rfl rfl rfl ?_
    refine EW.done ?_
    refine NW.seq ?_
    refine KW.ret1 rfl rfl ?_
    refine ⟨_, rfl, hs.keep, ?_⟩
    assumption
end Go.Cw.Tryz
set_option linter.unusedVariables false
set_option linter.unusedSimpArgs false
namespace Go.Cw
open Go.Proofs
theorem compareBytes_cmp : ∀ x y : List UInt8, Lib.compareBytes x y = cmpL cmpB x y
  | [], [] => rfl
  | [], _ :: _ => rfl
  | _ :: _, [] => rfl
  | a :: x, b :: y => by
    have ih := compareBytes_cmp x y
    have e : cmpL cmpB (a :: x) (b :: y) = if cmpB a b = 0 then cmpL cmpB x y else cmpB a b := rfl
    rw [e, Lib.compareBytes, ih]
    have h1 : (a < b) ↔ a.toNat < b.toNat := UInt8.lt_iff_toNat_lt
    have h2 : (b < a) ↔ b.toNat < a.toNat := UInt8.lt_iff_toNat_lt
    unfold cmpB
    by_cases h : a.toNat < b.toNat
    · rw [if_pos (h1.2 h), if_pos h]; rfl
    · rw [if_neg (fun x => h (h1.1 x)), if_neg h]
      by_cases h' : b.toNat < a.toNat
      · rw [if_pos (h2.2 h'), if_pos h']; rfl
      · rw [if_neg (fun x => h' (h2.1 x)), if_neg h']; rfl
/-- k first pieces are alike, and no more. -/
structure Com {α : Type} (xs ys : List α) (k : Nat) : Prop where
  hx : k ≤ xs.length
  hy : k ≤ ys.length
  eq : xs.take k = ys.take k
  ne : ∀ x y, xs[k]? = some x → ys[k]? = some y → x ≠ y
theorem cmpL_take {α : Type} {c : α → α → Int} (hc : LawCmp c) : ∀ (k : Nat) (xs ys : List α), xs.take k = ys.take k → k ≤ xs.length → k ≤ ys.length → cmpL c xs ys = cmpL c (xs.drop k) (ys.drop k)
  | 0, xs, ys, _, _, _ => rfl
  | k + 1, [], ys, _, h, _ => by simp at h
  | k + 1, _ :: _, [], _, _, h => by simp at h
  | k + 1, x :: xs, y :: ys, h, hx, hy => by
    simp only [List.take_succ_cons, List.cons.injEq] at h
    rw [List.drop_succ_cons, List.drop_succ_cons, ← cmpL_take hc k xs ys h.2 (by simpa using hx) (by simpa using hy)]
    rw [cmpL, if_pos ((hc.zero x y).2 h.1)]
end Go.Cw
namespace Go.Cw.Tryz
open Go.Proofs Go.Cw Go.Shelf
attribute [local irreducible] Go.Addr.add
theorem compare_spec (w0 : World) (a b : ByteArray) : T1 Tryz.prog 49 [.string a, .string b] w0 fun v w' => v = .int .i64 (cmpS a b) := by
  have h := Any.strings_Compare Tryz.layCompare a b w0
  rw [compareBytes_cmp] at h
  exact T1.of_calls h (fun w' hw => by rw [hw]; exact Keep.refl _ _) (fun w' _ => rfl)
theorem nanS_spec (w0 : World) (a : ByteArray) : T1 Tryz.prog 106 [.string a] w0 fun v w' => v = .bool false := by
  refine KW.enterT1 (n := 6) Tryz.func106 rfl rfl rfl ?_
  have hs := St.init w0 noS
  refine KW.seq ?_
  refine CW.region (S := noS) [(0, .q)] rfl ?_
  refine EW.assign rfl rfl rfl rfl rfl rfl ?_
  refine EW.done ?_
  refine NW.seq ?_
  refine KW.seq ?_
  refine CW.region (S := noS) [(0, .q), (1, .q), (2, .q), (3, .q)] rfl ?_
  refine EW.move rfl rfl rfl rfl rfl rfl ?_
  refine EW.move rfl rfl rfl rfl rfl rfl ?_
  refine EW.bin rfl rfl rfl rfl rfl rfl rfl BV.nes ?_
  refine EW.assign rfl rfl rfl rfl rfl rfl ?_
  refine EW.done ?_
  refine NW.seq ?_
  refine KW.ret1 rfl rfl ?_
  refine ⟨_, rfl, hs.keep, ?_⟩
  simp
theorem nanI_spec (w0 : World) (a : Int) : T1 Tryz.prog 107 [.int .i64 a] w0 fun v w' => v = .bool false := by
  refine KW.enterT1 (n := 6) Tryz.func107 rfl rfl rfl ?_
  have hs := St.init w0 noS
  refine KW.seq ?_
  refine CW.region (S := noS) [(0, .q)] rfl ?_
  refine EW.assign rfl rfl rfl rfl rfl rfl ?_
  refine EW.done ?_
  refine NW.seq ?_
  refine KW.seq ?_
  refine CW.region (S := noS) [(0, .q), (1, .q), (2, .q), (3, .q)] rfl ?_
  refine EW.move rfl rfl rfl rfl rfl rfl ?_
  refine EW.move rfl rfl rfl rfl rfl rfl ?_
  refine EW.bin rfl rfl rfl rfl rfl rfl rfl BV.nei ?_
  refine EW.assign rfl rfl rfl rfl rfl rfl ?_
  refine EW.done ?_
  refine NW.seq ?_
  refine KW.ret1 rfl rfl ?_
  refine ⟨_, rfl, hs.keep, ?_⟩
  simp
theorem cmpCompareS_spec (w0 : World) (a b : ByteArray) : T1 Tryz.prog 90 [.string a, .string b] w0 fun v w' => v = .int .i64 (cmpS a b) := by
  refine KW.enterT1 (n := 20) Tryz.func90 rfl rfl rfl ?_
  have hs := St.init w0 noS
  refine KW.seq ?_
  refine CW.region (S := noS) [(0, .q)] rfl ?_
  refine EW.assign rfl rfl rfl rfl rfl rfl ?_
  refine EW.done ?_
  refine NW.seq ?_
  refine KW.seq ?_
  refine CW.region (S := noS) [(0, .q), (1, .l), (2, .q)] rfl ?_
  refine EW.move rfl rfl rfl rfl rfl rfl ?_
  refine EW.callT1 (nanS_spec _ _) rfl rfl rfl rfl rfl Tryz.func106 bd106 nm106 rfl ?_
  intro v8 w hk8 hp8
  subst hp8
  replace hs := hs.stay hk8
  refine EW.assign rfl rfl rfl rfl rfl rfl ?_
  refine EW.done ?_
  refine NW.seq ?_
  refine KW.seq ?_
  refine CW.region (S := noS) [(0, .q), (1, .l), (2, .q)] rfl ?_
  refine EW.move rfl rfl rfl rfl rfl rfl ?_
  refine EW.callT1 (nanS_spec _ _) rfl rfl rfl rfl rfl Tryz.func106 bd106 nm106 rfl ?_
  intro v10 w hk10 hp10
  subst hp10
  replace hs := hs.stay hk10
  refine EW.assign rfl rfl rfl rfl rfl rfl ?_
  refine EW.done ?_
  refine NW.seq ?_
  refine KW.seq ?_
  refine KW.seq ?_
  refine CW.region (S := noS) [(0, .q)] rfl ?_
  refine EW.move rfl rfl rfl rfl rfl rfl ?_
  refine EW.done ?_
  refine NW.seq ?_
  refine CW.cond_f rfl (rfl) ?_
  refine KW.skip ?_
  refine NW.seq ?_
  refine KW.seq ?_
  refine KW.seq ?_
  refine CW.region (S := noS) [(0, .q)] rfl ?_
  refine EW.move rfl rfl rfl rfl rfl rfl ?_
  refine EW.done ?_
  refine NW.seq ?_
  refine CW.cond_f rfl (rfl) ?_
  refine KW.skip ?_
  refine NW.seq ?_
  refine KW.seq ?_
  refine KW.seq ?_
  refine CW.region (S := noS) [(0, .q), (1, .q), (2, .q)] rfl ?_
  refine EW.move rfl rfl rfl rfl rfl rfl ?_
  refine EW.move rfl rfl rfl rfl rfl rfl ?_
  refine EW.bin rfl rfl rfl rfl rfl rfl rfl BV.lts ?_
  refine EW.done ?_
  refine NW.seq ?_
  have hr := lawS.rng a b
  have ha := lawS.anti a b
  refine KW.cond rfl (fun h1 => ?_) (fun h1 => ?_)
  · skip
    refine KW.seq ?_
    refine CW.region (S := noS) [(0, .q)] rfl ?_
    refine EW.assign rfl rfl rfl rfl rfl rfl ?_
    refine EW.done ?_
    refine NW.seq ?_
    refine KW.ret1 rfl rfl ?_
    refine ⟨_, rfl, hs.keep, ?_⟩
    rw [bytesLess_S] at h1
    have h1' : cmpS a b < 0 := by simpa using h1
    congr 1; omega
  · skip
    rw [bytesLess_S] at h1
    have h1' : ¬ cmpS a b < 0 := by simpa using h1
    refine KW.skip ?_
    refine NW.seq ?_
    refine KW.seq ?_
    refine KW.seq ?_
    refine CW.region (S := noS) [(0, .q), (1, .q), (2, .q)] rfl ?_
    refine EW.move rfl rfl rfl rfl rfl rfl ?_
    refine EW.move rfl rfl rfl rfl rfl rfl ?_
    refine EW.bin rfl rfl rfl rfl rfl rfl rfl BV.gts ?_
    refine EW.done ?_
    refine NW.seq ?_
    refine KW.cond rfl (fun h2 => ?_) (fun h2 => ?_)
    · skip
      rw [bytesLess_S] at h2
      have h2' : cmpS a b > 0 := by
        have h3 : a ≠ b := by rintro rfl; simp at h2
        have h4 : cmpS a b ≠ 0 := fun h => h3 ((lawS.zero a b).1 h)
        omega
      refine KW.seq ?_
      refine CW.region (S := noS) [(0, .q)] rfl ?_
      refine EW.assign rfl rfl rfl rfl rfl rfl ?_
      refine EW.done ?_
      refine NW.seq ?_
      refine KW.ret1 rfl rfl ?_
      refine ⟨_, rfl, hs.keep, ?_⟩
      congr 1; omega
    · skip
      rw [bytesLess_S] at h2
      have h2' : cmpS a b = 0 := by
        rw [decide_eq_false h1', Bool.false_or] at h2
        have h3 : a = b := by simpa using h2
        exact (lawS.zero a b).2 h3
      refine KW.skip ?_
      refine NW.seq ?_
      refine KW.seq ?_
      refine CW.region (S := noS) [(0, .q)] rfl ?_
      refine EW.assign rfl rfl rfl rfl rfl rfl ?_
      refine EW.done ?_
      refine NW.seq ?_
      refine KW.ret1 rfl rfl ?_
      refine ⟨_, rfl, hs.keep, ?_⟩
      congr 1; omega
theorem cmpCompareI_spec (w0 : World) (a b : Int) : T1 Tryz.prog 91 [.int .i64 a, .int .i64 b] w0 fun v w' => v = .int .i64 (if a < b then -1 else if b < a then 1 else 0) := by
  refine KW.enterT1 (n := 20) Tryz.func91 rfl rfl rfl ?_
  have hs := St.init w0 noS
  refine KW.seq ?_
  refine CW.region (S := noS) [(0, .q)] rfl ?_
  refine EW.assign rfl rfl rfl rfl rfl rfl ?_
  refine EW.done ?_
  refine NW.seq ?_
  refine KW.seq ?_
  refine CW.region (S := noS) [(0, .q), (1, .l), (2, .q)] rfl ?_
  refine EW.move rfl rfl rfl rfl rfl rfl ?_
  refine EW.callT1 (nanI_spec _ _) rfl rfl rfl rfl rfl Tryz.func107 bd107 nm107 rfl ?_
  intro v8 w hk8 hp8
  subst hp8
  replace hs := hs.stay hk8
  refine EW.assign rfl rfl rfl rfl rfl rfl ?_
  refine EW.done ?_
  refine NW.seq ?_
  refine KW.seq ?_
  refine CW.region (S := noS) [(0, .q), (1, .l), (2, .q)] rfl ?_
  refine EW.move rfl rfl rfl rfl rfl rfl ?_
  refine EW.callT1 (nanI_spec _ _) rfl rfl rfl rfl rfl Tryz.func107 bd107 nm107 rfl ?_
  intro v10 w hk10 hp10
  subst hp10
  replace hs := hs.stay hk10
  refine EW.assign rfl rfl rfl rfl rfl rfl ?_
  refine EW.done ?_
  refine NW.seq ?_
  refine KW.seq ?_
  refine KW.seq ?_
  refine CW.region (S := noS) [(0, .q)] rfl ?_
  refine EW.move rfl rfl rfl rfl rfl rfl ?_
  refine EW.done ?_
  refine NW.seq ?_
  refine CW.cond_f rfl (rfl) ?_
  refine KW.skip ?_
  refine NW.seq ?_
  refine KW.seq ?_
  refine KW.seq ?_
  refine CW.region (S := noS) [(0, .q)] rfl ?_
  refine EW.move rfl rfl rfl rfl rfl rfl ?_
  refine EW.done ?_
  refine NW.seq ?_
  refine CW.cond_f rfl (rfl) ?_
  refine KW.skip ?_
  refine NW.seq ?_
  refine KW.seq ?_
  refine KW.seq ?_
  refine CW.region (S := noS) [(0, .q), (1, .q), (2, .q)] rfl ?_
  refine EW.move rfl rfl rfl rfl rfl rfl ?_
  refine EW.move rfl rfl rfl rfl rfl rfl ?_
  refine EW.bin rfl rfl rfl rfl rfl rfl rfl BV.lss ?_
  refine EW.done ?_
  refine NW.seq ?_
  refine KW.cond rfl (fun h1 => ?_) (fun h1 => ?_)
  · skip
    refine KW.seq ?_
    refine CW.region (S := noS) [(0, .q)] rfl ?_
    refine EW.assign rfl rfl rfl rfl rfl rfl ?_
    refine EW.done ?_
    refine NW.seq ?_
    refine KW.ret1 rfl rfl ?_
    refine ⟨_, rfl, hs.keep, ?_⟩
    have h1' : a < b := by simpa using h1
    rw [if_pos h1']
  · skip
    have h1' : ¬ a < b := by simpa using h1
    refine KW.skip ?_
    refine NW.seq ?_
    refine KW.seq ?_
    refine KW.seq ?_
    refine CW.region (S := noS) [(0, .q), (1, .q), (2, .q)] rfl ?_
    refine EW.move rfl rfl rfl rfl rfl rfl ?_
    refine EW.move rfl rfl rfl rfl rfl rfl ?_
    refine EW.bin rfl rfl rfl rfl rfl rfl rfl BV.gtr ?_
    refine EW.done ?_
    refine NW.seq ?_
    refine KW.cond rfl (fun h2 => ?_) (fun h2 => ?_)
    · skip
      have h2' : b < a := by simpa using h2
      refine KW.seq ?_
      refine CW.region (S := noS) [(0, .q)] rfl ?_
      refine EW.assign rfl rfl rfl rfl rfl rfl ?_
      refine EW.done ?_
      refine NW.seq ?_
      refine KW.ret1 rfl rfl ?_
      refine ⟨_, rfl, hs.keep, ?_⟩
      rw [if_neg h1', if_pos h2']
    · skip
      have h2' : ¬ b < a := by simpa using h2
      refine KW.skip ?_
      refine NW.seq ?_
      refine KW.seq ?_
      refine CW.region (S := noS) [(0, .q)] rfl ?_
      refine EW.assign rfl rfl rfl rfl rfl rfl ?_
      refine EW.done ?_
      refine NW.seq ?_
      refine KW.ret1 rfl rfl ?_
      refine ⟨_, rfl, hs.keep, ?_⟩
      rw [if_neg h1', if_neg h2']
theorem common_spec (w0 : World) (A B : Option Addr) (ca cb : Nat) (xs ys : List ByteArray) (hx : SlA elS w0 A xs) (hy : SlA elS w0 B ys) (lx : xs.length ≤ 1048577) (ly : ys.length ≤ 1048577) :
    T1 Tryz.prog 89 [.slice A xs.length ca, .slice B ys.length cb] w0 fun v w' => ∃ k : Nat, v = .int .i64 (k : Int) ∧ Com xs ys k := by
  refine KW.enterT1 (n := 27) Tryz.func89 rfl rfl rfl ?_
  have hs := St.init w0 noS
  refine KW.seq ?_
  refine CW.region (S := noS) [(0, .q)] rfl ?_
  refine EW.assign rfl rfl rfl rfl rfl rfl ?_
  refine EW.done ?_
  refine NW.seq ?_
  refine KW.scope ?_
  refine KW.seq ?_
  refine CW.region (S := noS) [(0, .q)] rfl ?_
  refine EW.assign rfl rfl rfl rfl rfl rfl ?_
  refine EW.done ?_
  refine NW.seq ?_
  refine KW.seq ?_
  refine KW.label ?_
  refine NW.seq ?_
  refine KW.seq ?_
  refine KW.block ?_
  refine KW.loop (ι := Nat) (fun k => xs.length - k) (fun k => [(0, .slice A xs.length ca), (1, .slice B ys.length cb), (5, .int .i64 (k : Int))]) (fun k w => k ≤ xs.length ∧ k ≤ ys.length ∧ xs.take k = ys.take k ∧ St w0 noS w []) 0 (by repeat (first | exact trivial | (refine ⟨by first | rfl | (congr 2; omega) | (simp; done) | (congr 1; simp; done), ?_⟩))) ?_ ?_
  · exact ⟨Nat.zero_le _, Nat.zero_le _, rfl, hs⟩
  clear hs
  rintro k w ⟨hka, hkb, he, hs⟩
  refine KW.seq ?_
  refine KW.seq ?_
  refine CW.region (S := noS) [(0, .q), (1, .q), (2, .q), (3, .q)] rfl ?_
  refine EW.move rfl rfl rfl rfl rfl rfl ?_
  refine EW.move rfl rfl rfl rfl rfl rfl ?_
  refine EW.len rfl rfl rfl rfl rfl rfl ?_
  refine EW.bin rfl rfl rfl rfl rfl rfl rfl BV.lss ?_
  refine EW.done ?_
  refine NW.seq ?_
  by_cases hlt : k < xs.length
  · refine CW.cond_t rfl (by simpa using hlt) ?_
    refine KW.skip ?_
    refine NW.seq ?_
    refine KW.block ?_
    refine KW.seq ?_
    refine KW.block ?_
    refine KW.seq ?_
    refine KW.seq ?_
    refine CW.region (S := noS) [(0, .q), (1, .q), (2, .q), (3, .q), (4, .q)] rfl ?_
    refine EW.move rfl rfl rfl rfl rfl rfl ?_
    refine EW.move rfl rfl rfl rfl rfl rfl ?_
    refine EW.len rfl rfl rfl rfl rfl rfl ?_
    refine EW.bin rfl rfl rfl rfl rfl rfl rfl BV.eqi ?_
    refine EW.assign rfl rfl rfl rfl rfl rfl ?_
    refine EW.done ?_
    refine NW.seq ?_
    by_cases hky : k = ys.length
    · refine CW.cond_t rfl (by simp [hky]) ?_
      refine KW.skip ?_
      refine NW.seq ?_
      refine CW.cond_t rfl (by simp [hky]) ?_
      refine KW.exit ?_
      refine XW.other rfl ?_
      refine XW.seq ?_
      refine XW.other rfl ?_
      refine XW.inv ?_
      refine XW.blk ?_
      refine NW.seq ?_
      refine KW.seq ?_
      refine CW.region (S := noS) [(0, .q), (1, .q)] rfl ?_
      refine EW.move rfl rfl rfl rfl rfl rfl ?_
      refine EW.assign rfl rfl rfl rfl rfl rfl ?_
      refine EW.done ?_
      refine NW.seq ?_
      refine KW.ret1 rfl rfl ?_
      refine ⟨_, rfl, hs.keep, ?_⟩
      exact ⟨k, rfl, hka, hkb, he, fun x y _ h => by rw [List.getElem?_eq_none (by omega)] at h; cases h⟩
    · refine CW.cond_f rfl (by simp; omega) ?_
      have hky' : k < ys.length := by omega
      obtain ⟨a1, rfl, _, hld1⟩ := (hx.stay hs.keep).at_ hlt
      obtain ⟨a2, rfl, _, hld2⟩ := (hy.stay hs.keep).at_ hky'
      have g1 : LDP Tryz.prog w 9 (a1.add ((k : Int).toNat * 1)) (.string xs[k]) := hld1 k xs[k] (by simp)
      have g2 : LDP Tryz.prog w 9 (a2.add ((k : Int).toNat * 1)) (.string ys[k]) := hld2 k ys[k] (by simp)
      refine CW.regionD (noS) [(0, .q), (1, .q), (2, .q), (3, .q), (4, .q), (5, .q), (6, .q), (7, .q), (8, .q), (9, .q)] mixed (by kernel_rfl) ?_
      replace hs := hs.drew
      refine EW.move rfl rfl rfl rfl rfl rfl ?_
      refine EW.move rfl rfl rfl rfl rfl rfl ?_
      refine EW.indexAddr rfl rfl rfl rfl rfl rfl rfl (by omega) (by omega) ?_
      refine EW.loadP rfl rfl rfl rfl rfl rfl (by first | assumption | (apply LDP.drew; assumption) | exact St.ld1 hs 0 rfl rfl | exact St.ldA hs 0 rfl rfl rfl | exact St.ld1 hs 1 rfl rfl | exact St.ldA hs 1 rfl rfl rfl | exact St.ld1 hs 2 rfl rfl | exact St.ldA hs 2 rfl rfl rfl | exact St.ld1 hs 3 rfl rfl | exact St.ldA hs 3 rfl rfl rfl | exact St.ld1 hs 4 rfl rfl | exact St.ldA hs 4 rfl rfl rfl | exact St.ld1 hs 5 rfl rfl | exact St.ldA hs 5 rfl rfl rfl | exact St.ld1 hs 6 rfl rfl | exact St.ldA hs 6 rfl rfl rfl) (by first | exact .inl rfl | exact .inr (fun h => h)) ?_
      refine EW.move rfl rfl rfl rfl rfl rfl ?_
      refine EW.move rfl rfl rfl rfl rfl rfl ?_
      refine EW.indexAddr rfl rfl rfl rfl rfl rfl rfl (by omega) (by omega) ?_
      refine EW.loadP rfl rfl rfl rfl rfl rfl (by first | assumption | (apply LDP.drew; assumption) | exact St.ld1 hs 0 rfl rfl | exact St.ldA hs 0 rfl rfl rfl | exact St.ld1 hs 1 rfl rfl | exact St.ldA hs 1 rfl rfl rfl | exact St.ld1 hs 2 rfl rfl | exact St.ldA hs 2 rfl rfl rfl | exact St.ld1 hs 3 rfl rfl | exact St.ldA hs 3 rfl rfl rfl | exact St.ld1 hs 4 rfl rfl | exact St.ldA hs 4 rfl rfl rfl | exact St.ld1 hs 5 rfl rfl | exact St.ldA hs 5 rfl rfl rfl | exact St.ld1 hs 6 rfl rfl | exact St.ldA hs 6 rfl rfl rfl) (by first | exact .inl rfl | exact .inr (fun h => h)) ?_
      refine EW.bin rfl rfl rfl rfl rfl rfl rfl BV.nes ?_
      refine EW.assign rfl rfl rfl rfl rfl rfl ?_
      refine EW.done ?_
      refine NW.seq ?_
      refine KW.cond rfl (fun h1 => ?_) (fun h1 => ?_)
      · skip
        have h1' : xs[k] ≠ ys[k] := by simpa using h1
        refine KW.exit ?_
        refine XW.other rfl ?_
        refine XW.seq ?_
        refine XW.other rfl ?_
        refine XW.inv ?_
        refine XW.blk ?_
        refine NW.seq ?_
        refine KW.seq ?_
        refine CW.region (S := noS) [(0, .q), (1, .q)] rfl ?_
        refine EW.move rfl rfl rfl rfl rfl rfl ?_
        refine EW.assign rfl rfl rfl rfl rfl rfl ?_
        refine EW.done ?_
        refine NW.seq ?_
        refine KW.ret1 rfl rfl ?_
        refine ⟨_, rfl, hs.keep, ?_⟩
        exact ⟨k, rfl, hka, hkb, he, fun x y hxk hyk => by
          rw [List.getElem?_eq_getElem hlt] at hxk; rw [List.getElem?_eq_getElem hky'] at hyk
          injection hxk with hxk; injection hyk with hyk; subst hxk; subst hyk; exact h1'⟩
      · skip
        have h1' : xs[k] = ys[k] := by simpa using h1
        refine KW.skip ?_
        refine NW.blk ?_
        refine NW.seq ?_
        refine CW.region (S := noS) [(0, .q), (1, .q), (2, .q)] rfl ?_
        refine EW.move rfl rfl rfl rfl rfl rfl ?_
        refine EW.bin rfl rfl rfl rfl rfl rfl rfl (BV.add (wrap_i64 (by omega) (by omega))) ?_
        refine EW.assign rfl rfl rfl rfl rfl rfl ?_
        refine EW.done ?_
        refine NW.blk ?_
        refine NW.again (k + 1) (by first | assumption | (dsimp only; omega) | omega | (simp; omega)) (by repeat (first | exact trivial | (refine ⟨by first | rfl | (congr 2; omega) | (simp; done) | (congr 1; simp; done), ?_⟩))) ?_
        try dsimp only
        refine ⟨hlt, hky', ?_, hs⟩
        rw [List.take_add_one, List.take_add_one, he, List.getElem?_eq_getElem hlt, List.getElem?_eq_getElem hky', h1']
  · refine CW.cond_f rfl (by simpa using hlt) ?_
    refine KW.exit ?_
    refine XW.seq ?_
    refine XW.inv ?_
    refine XW.blk ?_
    refine NW.seq ?_
    refine KW.seq ?_
    refine CW.region (S := noS) [(0, .q), (1, .q)] rfl ?_
    refine EW.move rfl rfl rfl rfl rfl rfl ?_
    refine EW.assign rfl rfl rfl rfl rfl rfl ?_
    refine EW.done ?_
    refine NW.seq ?_
    refine KW.ret1 rfl rfl ?_
    refine ⟨_, rfl, hs.keep, ?_⟩
    exact ⟨k, rfl, hka, hkb, he, fun x y h _ => by rw [List.getElem?_eq_none (by omega)] at h; cases h⟩

theorem pathCmp_spec (w0 : World) (a b : ByteArray) (ha : a.size ≤ 1048576) (hb : b.size ≤ 1048576) (hg : GL w0) :
    T1 Tryz.prog 74 [.string a, .string b] w0 fun v w' => v = .int .i64 (cmpP a b) := by
  refine KW.enterT1 (n := 39) Tryz.func74 rfl rfl rfl ?_
  have hs := St.init w0 noS
  refine KW.seq ?_
  refine CW.region (S := noS) [(0, .q)] rfl ?_
  refine EW.assign rfl rfl rfl rfl rfl rfl ?_
  refine EW.done ?_
  refine NW.seq ?_
  refine KW.seq ?_
  refine CW.region (S := noS) [(0, .q), (1, .l), (2, .q), (3, .l), (4, .q), (5, .q)] rfl ?_
  refine EW.move rfl rfl rfl rfl rfl rfl ?_
  refine EW.callT1 (pathSplit_spec _ _ (by assumption) (hg.stay hs.keep)) rfl rfl rfl rfl rfl Tryz.func88 bd88 nm88 rfl ?_
  intro v9 w hk9 hp9
  obtain ⟨ps9, hps9, hf9⟩ := hp9
  obtain ⟨A9, c9, rfl, _, hc9, _⟩ := hf9.sl
  replace hs := hs.fresh hk9 hf9
  refine EW.move rfl rfl rfl rfl rfl rfl ?_
  refine EW.callT1 (pathSplit_spec _ _ (by assumption) (hg.stay hs.keep)) rfl rfl rfl rfl rfl Tryz.func88 bd88 nm88 rfl ?_
  intro v11 w hk11 hp11
  obtain ⟨ps11, hps11, hf11⟩ := hp11
  obtain ⟨A11, c11, rfl, _, hc11, _⟩ := hf11.sl
  replace hs := hs.fresh hk11 hf11
  have l1 := ps_len hps9
  have l2 := ps_len hps11
  have hz : LawCmp (cmpL cmpB) := lawB.list
  refine EW.assign rfl rfl rfl rfl rfl rfl ?_
  refine EW.assign rfl rfl rfl rfl rfl rfl ?_
  refine EW.done ?_
  refine NW.seq ?_
  refine KW.seq ?_
  refine CW.region (S := noS) [(0, .q), (1, .q), (2, .l), (3, .q)] rfl ?_
  refine EW.move rfl rfl rfl rfl rfl rfl ?_
  refine EW.move rfl rfl rfl rfl rfl rfl ?_
  refine EW.callT1 (common_spec _ A9 A11 _ _ ps9 ps11 (hs.sl 1 rfl) (hs.sl 0 rfl) (by omega) (by omega)) rfl rfl rfl rfl rfl Tryz.func89 bd89 nm89 rfl ?_
  intro v14 w hk14 hp14
  obtain ⟨k, rfl, hcom⟩ := hp14
  replace hs := hs.stay hk14
  have hkx := hcom.hx
  have hky := hcom.hy
  have hcut : cmpP a b = cmpL (cmpL cmpB) ((ps9.map bl).drop k) ((ps11.map bl).drop k) := by
    unfold cmpP
    rw [← hps9, ← hps11]
    exact cmpL_take hz k _ _ (by rw [← List.map_take, ← List.map_take, hcom.eq]) (by simpa using hkx) (by simpa using hky)
  refine EW.assign rfl rfl rfl rfl rfl rfl ?_
  refine EW.done ?_
  refine NW.seq ?_
  refine KW.seq ?_
  refine KW.seq ?_
  refine CW.region (S := noS) [(0, .q), (1, .q), (2, .q), (3, .q), (4, .q), (5, .q), (6, .q), (7, .q), (8, .q), (9, .q)] rfl ?_
  refine EW.move rfl rfl rfl rfl rfl rfl ?_
  refine EW.move rfl rfl rfl rfl rfl rfl ?_
  refine EW.len rfl rfl rfl rfl rfl rfl ?_
  refine EW.bin rfl rfl rfl rfl rfl rfl rfl BV.lss ?_
  refine EW.move rfl rfl rfl rfl rfl rfl ?_
  refine EW.caseB (fun h1 => ?_) (fun h1 => ?_)
  · skip
    have h1' : k < ps9.length := by simpa using h1
    refine EW.move rfl rfl rfl rfl rfl rfl ?_
    refine EW.move rfl rfl rfl rfl rfl rfl ?_
    refine EW.len rfl rfl rfl rfl rfl rfl ?_
    refine EW.bin rfl rfl rfl rfl rfl rfl rfl BV.lss ?_
    refine EW.pick rfl rfl rfl rfl rfl rfl rfl ?_
    refine EW.done ?_
    refine NW.seq ?_
    refine KW.cond rfl (fun h2 => ?_) (fun h2 => ?_)
    · skip
      have h2' : k < ps11.length := by simpa using h2
      obtain ⟨a1, rfl, _, hld1⟩ := (hs.sl 1 rfl).at_ h1'
      obtain ⟨a2, rfl, _, hld2⟩ := (hs.sl 0 rfl).at_ h2'
      have g1 : LDP Tryz.prog _ 9 (a1.add ((k : Int).toNat * 1)) (.string ps9[k]) := hld1 k ps9[k] (by simp)
      have g2 : LDP Tryz.prog _ 9 (a2.add ((k : Int).toNat * 1)) (.string ps11[k]) := hld2 k ps11[k] (by simp)
      replace g1 := g1.keep (Keep.drew (S := noS) _) (fun h => h)
      replace g2 := g2.keep (Keep.drew (S := noS) _) (fun h => h)
      refine KW.seq ?_
      refine CW.regionD (noS) [(0, .q), (1, .q), (2, .q), (3, .q), (4, .q), (5, .q), (6, .q), (7, .q), (8, .l), (9, .q)] mixed (by kernel_rfl) ?_
      replace hs := hs.drew
      refine EW.move rfl rfl rfl rfl rfl rfl ?_
      refine EW.move rfl rfl rfl rfl rfl rfl ?_
      refine EW.indexAddr rfl rfl rfl rfl rfl rfl rfl (by omega) (by omega) ?_
      refine EW.loadP rfl rfl rfl rfl rfl rfl (by first | assumption | (apply LDP.drew; assumption) | exact St.ld1 hs 0 rfl rfl | exact St.ldA hs 0 rfl rfl rfl | exact St.ld1 hs 1 rfl rfl | exact St.ldA hs 1 rfl rfl rfl | exact St.ld1 hs 2 rfl rfl | exact St.ldA hs 2 rfl rfl rfl | exact St.ld1 hs 3 rfl rfl | exact St.ldA hs 3 rfl rfl rfl | exact St.ld1 hs 4 rfl rfl | exact St.ldA hs 4 rfl rfl rfl | exact St.ld1 hs 5 rfl rfl | exact St.ldA hs 5 rfl rfl rfl | exact St.ld1 hs 6 rfl rfl | exact St.ldA hs 6 rfl rfl rfl) (by first | exact .inl rfl | exact .inr (fun h => h)) ?_
      refine EW.move rfl rfl rfl rfl rfl rfl ?_
      refine EW.move rfl rfl rfl rfl rfl rfl ?_
      refine EW.indexAddr rfl rfl rfl rfl rfl rfl rfl (by omega) (by omega) ?_
      refine EW.loadP rfl rfl rfl rfl rfl rfl (by first | assumption | (apply LDP.drew; assumption) | exact St.ld1 hs 0 rfl rfl | exact St.ldA hs 0 rfl rfl rfl | exact St.ld1 hs 1 rfl rfl | exact St.ldA hs 1 rfl rfl rfl | exact St.ld1 hs 2 rfl rfl | exact St.ldA hs 2 rfl rfl rfl | exact St.ld1 hs 3 rfl rfl | exact St.ldA hs 3 rfl rfl rfl | exact St.ld1 hs 4 rfl rfl | exact St.ldA hs 4 rfl rfl rfl | exact St.ld1 hs 5 rfl rfl | exact St.ldA hs 5 rfl rfl rfl | exact St.ld1 hs 6 rfl rfl | exact St.ldA hs 6 rfl rfl rfl) (by first | exact .inl rfl | exact .inr (fun h => h)) ?_
      refine EW.callT1 (cmpCompareS_spec _ _ _) rfl rfl rfl rfl rfl Tryz.func90 bd90 nm90 rfl ?_
      intro v33 w hk33 hp33
      subst hp33
      replace hs := hs.stay hk33
      refine EW.assign rfl rfl rfl rfl rfl rfl ?_
      refine EW.done ?_
      refine NW.seq ?_
      refine KW.ret1 rfl rfl ?_
      refine ⟨_, rfl, hs.keep, ?_⟩
      have hne := hcom.ne ps9[k] ps11[k] (by simp) (by simp)
      rw [hcut, List.drop_eq_getElem_cons (by simpa using h1'), List.drop_eq_getElem_cons (i := k) (l := ps11.map bl) (by simpa using h2')]
      have : cmpL cmpB (bl ps9[k]) (bl ps11[k]) ≠ 0 := fun h => hne (bl_inj ((hz.zero _ _).1 h))
      simp only [cmpL, List.getElem_map, if_neg this]; rfl
    · skip
      have h2' : ¬ k < ps11.length := by simpa using h2
      refine KW.skip ?_
      refine NW.seq ?_
      refine KW.seq ?_
      refine CW.region (S := noS) [(0, .q), (1, .q), (2, .q), (3, .q), (4, .l), (5, .q)] rfl ?_
      refine EW.move rfl rfl rfl rfl rfl rfl ?_
      refine EW.len rfl rfl rfl rfl rfl rfl ?_
      refine EW.move rfl rfl rfl rfl rfl rfl ?_
      refine EW.len rfl rfl rfl rfl rfl rfl ?_
      refine EW.callT1 (cmpCompareI_spec _ _ _) rfl rfl rfl rfl rfl Tryz.func91 bd91 nm91 rfl ?_
      intro v38 w hk38 hp38
      subst hp38
      replace hs := hs.stay hk38
      refine EW.assign rfl rfl rfl rfl rfl rfl ?_
      refine EW.done ?_
      refine NW.seq ?_
      refine KW.ret1 rfl rfl ?_
      refine ⟨_, rfl, hs.keep, ?_⟩
      rw [hcut, show (ps11.map bl).drop k = [] from List.drop_eq_nil_of_le (by simp; omega), List.drop_eq_getElem_cons (by simpa using h1')]
      rw [if_neg (by omega), if_pos (by omega)]; rfl
  · skip
    have h1' : ¬ k < ps9.length := by simpa using h1
    refine EW.off rfl rfl rfl rfl ?_
    refine EW.off rfl rfl rfl rfl ?_
    refine EW.off rfl rfl rfl rfl ?_
    refine EW.off rfl rfl rfl rfl ?_
    refine EW.pick rfl rfl rfl rfl rfl rfl rfl ?_
    refine EW.done ?_
    refine NW.seq ?_
    refine CW.cond_f rfl (rfl) ?_
    refine KW.skip ?_
    refine NW.seq ?_
    refine KW.seq ?_
    refine CW.region (S := noS) [(0, .q), (1, .q), (2, .q), (3, .q), (4, .l), (5, .q)] rfl ?_
    refine EW.move rfl rfl rfl rfl rfl rfl ?_
    refine EW.len rfl rfl rfl rfl rfl rfl ?_
    refine EW.move rfl rfl rfl rfl rfl rfl ?_
    refine EW.len rfl rfl rfl rfl rfl rfl ?_
    refine EW.callT1 (cmpCompareI_spec _ _ _) rfl rfl rfl rfl rfl Tryz.func91 bd91 nm91 rfl ?_
    intro v38 w hk38 hp38
    subst hp38
    replace hs := hs.stay hk38
    refine EW.assign rfl rfl rfl rfl rfl rfl ?_
    refine EW.done ?_
    refine NW.seq ?_
    refine KW.ret1 rfl rfl ?_
    refine ⟨_, rfl, hs.keep, ?_⟩
    rw [hcut, show (ps9.map bl).drop k = [] from List.drop_eq_nil_of_le (by simp; omega)]
    by_cases h2 : k < ps11.length
    · rw [List.drop_eq_getElem_cons (i := k) (l := ps11.map bl) (by simpa using h2), if_pos (by omega)]; rfl
    · rw [show (ps11.map bl).drop k = [] from List.drop_eq_nil_of_le (by simp; omega), if_neg (by omega), if_neg (by omega)]; rfl
theorem labelCmp_spec (w0 : World) (a b : Lab) (ha : Sm a) (hb : Sm b) (hg : GL w0) :
    T1 Tryz.prog 48 [encL a, encL b] w0 fun v w' => v = .int .i64 (if cmpP a.pkg b.pkg = 0 then cmpS a.nm b.nm else cmpP a.pkg b.pkg) := by
  obtain ⟨h1, h2⟩ := ha
  obtain ⟨h3, h4⟩ := hb
  refine KW.enterT1 (n := 19) Tryz.func48 rfl rfl rfl ?_
  have hs := St.init w0 noS
  refine KW.seq ?_
  refine CW.region (S := noS) [(0, .l), (1, .l), (2, .q)] rfl ?_
  refine EW.box hs rfl rfl rfl rfl rfl rfl ?_
  clear hs; intro b2 w hs
  refine EW.box hs rfl rfl rfl rfl rfl rfl ?_
  clear hs; intro b3 w hs
  refine EW.assign rfl rfl rfl rfl rfl rfl ?_
  refine EW.done ?_
  refine NW.seq ?_
  refine KW.seq ?_
  refine KW.seq ?_
  refine CW.region (S := noS) [(0, .q), (1, .q), (2, .q), (3, .q), (4, .l), (5, .q)] rfl ?_
  first | refine EW.fieldAddr rfl rfl rfl rfl rfl rfl ?_ | refine EW.fieldAddrA rfl rfl rfl rfl rfl rfl ?_
  refine EW.loadP rfl rfl rfl rfl rfl rfl (by first | assumption | (apply LDP.drew; assumption) | exact St.ld1 hs 0 rfl rfl | exact St.ldA hs 0 rfl rfl rfl | exact St.ld1 hs 1 rfl rfl | exact St.ldA hs 1 rfl rfl rfl | exact St.ld1 hs 2 rfl rfl | exact St.ldA hs 2 rfl rfl rfl | exact St.ld1 hs 3 rfl rfl | exact St.ldA hs 3 rfl rfl rfl | exact St.ld1 hs 4 rfl rfl | exact St.ldA hs 4 rfl rfl rfl | exact St.ld1 hs 5 rfl rfl | exact St.ldA hs 5 rfl rfl rfl | exact St.ld1 hs 6 rfl rfl | exact St.ldA hs 6 rfl rfl rfl) (by first | exact .inl rfl | exact .inr (fun h => h)) ?_
  first | refine EW.fieldAddr rfl rfl rfl rfl rfl rfl ?_ | refine EW.fieldAddrA rfl rfl rfl rfl rfl rfl ?_
  refine EW.loadP rfl rfl rfl rfl rfl rfl (by first | assumption | (apply LDP.drew; assumption) | exact St.ld1 hs 0 rfl rfl | exact St.ldA hs 0 rfl rfl rfl | exact St.ld1 hs 1 rfl rfl | exact St.ldA hs 1 rfl rfl rfl | exact St.ld1 hs 2 rfl rfl | exact St.ldA hs 2 rfl rfl rfl | exact St.ld1 hs 3 rfl rfl | exact St.ldA hs 3 rfl rfl rfl | exact St.ld1 hs 4 rfl rfl | exact St.ldA hs 4 rfl rfl rfl | exact St.ld1 hs 5 rfl rfl | exact St.ldA hs 5 rfl rfl rfl | exact St.ld1 hs 6 rfl rfl | exact St.ldA hs 6 rfl rfl rfl) (by first | exact .inl rfl | exact .inr (fun h => h)) ?_
  refine EW.callT1 (pathCmp_spec _ _ _ h1 h3 (hg.stay hs.keep)) rfl rfl rfl rfl rfl Tryz.func74 bd74 nm74 rfl ?_
  intro v10 w hk10 hp10
  subst hp10
  replace hs := hs.stay hk10
  refine EW.assign rfl rfl rfl rfl rfl rfl ?_
  refine EW.done ?_
  refine NW.seq ?_
  refine KW.seq ?_
  refine CW.region (S := noS) [(0, .q), (1, .q)] rfl ?_
  refine EW.move rfl rfl rfl rfl rfl rfl ?_
  refine EW.bin rfl rfl rfl rfl rfl rfl rfl BV.nei ?_
  refine EW.done ?_
  refine NW.seq ?_
  refine KW.cond rfl (fun hc => ?_) (fun hc => ?_)
  · skip
    have hc' : cmpP a.pkg b.pkg ≠ 0 := by simpa using hc
    refine KW.seq ?_
    refine CW.region (S := noS) [(0, .q), (1, .q)] rfl ?_
    refine EW.move rfl rfl rfl rfl rfl rfl ?_
    refine EW.assign rfl rfl rfl rfl rfl rfl ?_
    refine EW.done ?_
    refine NW.seq ?_
    refine KW.ret1 rfl rfl ?_
    refine ⟨_, rfl, hs.keep, ?_⟩
    rw [if_neg hc']
  · skip
    have hc' : cmpP a.pkg b.pkg = 0 := by simpa using hc
    refine KW.skip ?_
    refine NW.seq ?_
    refine KW.seq ?_
    refine CW.region (S := noS) [(0, .q), (1, .q), (2, .q), (3, .q), (4, .l), (5, .q)] rfl ?_
    first | refine EW.fieldAddr rfl rfl rfl rfl rfl rfl ?_ | refine EW.fieldAddrA rfl rfl rfl rfl rfl rfl ?_
    refine EW.loadP rfl rfl rfl rfl rfl rfl (by first | assumption | (apply LDP.drew; assumption) | exact St.ld1 hs 0 rfl rfl | exact St.ldA hs 0 rfl rfl rfl | exact St.ld1 hs 1 rfl rfl | exact St.ldA hs 1 rfl rfl rfl | exact St.ld1 hs 2 rfl rfl | exact St.ldA hs 2 rfl rfl rfl | exact St.ld1 hs 3 rfl rfl | exact St.ldA hs 3 rfl rfl rfl | exact St.ld1 hs 4 rfl rfl | exact St.ldA hs 4 rfl rfl rfl | exact St.ld1 hs 5 rfl rfl | exact St.ldA hs 5 rfl rfl rfl | exact St.ld1 hs 6 rfl rfl | exact St.ldA hs 6 rfl rfl rfl) (by first | exact .inl rfl | exact .inr (fun h => h)) ?_
    first | refine EW.fieldAddr rfl rfl rfl rfl rfl rfl ?_ | refine EW.fieldAddrA rfl rfl rfl rfl rfl rfl ?_
    refine EW.loadP rfl rfl rfl rfl rfl rfl (by first | assumption | (apply LDP.drew; assumption) | exact St.ld1 hs 0 rfl rfl | exact St.ldA hs 0 rfl rfl rfl | exact St.ld1 hs 1 rfl rfl | exact St.ldA hs 1 rfl rfl rfl | exact St.ld1 hs 2 rfl rfl | exact St.ldA hs 2 rfl rfl rfl | exact St.ld1 hs 3 rfl rfl | exact St.ldA hs 3 rfl rfl rfl | exact St.ld1 hs 4 rfl rfl | exact St.ldA hs 4 rfl rfl rfl | exact St.ld1 hs 5 rfl rfl | exact St.ldA hs 5 rfl rfl rfl | exact St.ld1 hs 6 rfl rfl | exact St.ldA hs 6 rfl rfl rfl) (by first | exact .inl rfl | exact .inr (fun h => h)) ?_
    refine EW.callT1 (compare_spec _ _ _) rfl rfl rfl rfl rfl Tryz.func49 bd49 nm49 rfl ?_
    intro v18 w hk18 hp18
    subst hp18
    replace hs := hs.stay hk18
    refine EW.assign rfl rfl rfl rfl rfl rfl ?_
    refine EW.done ?_
    refine NW.seq ?_
    refine KW.ret1 rfl rfl ?_
    refine ⟨_, rfl, hs.keep, ?_⟩
    rw [if_pos hc']
theorem order_spec (w0 : World) (a b : Lab) (ha : Sm a) (hb : Sm b) (hg : GL w0) :
    T1 Tryz.prog 36 [encL a, encL b] w0 fun v w' => v = .int .i64 (cmpLab a b) := by
  refine KW.enterT1 (n := 17) Tryz.func36 rfl rfl rfl ?_
  have hs := St.init w0 noS
  have hab : cmpLab a b = if cmpP a.pkg b.pkg = 0 then cmpS a.nm b.nm else cmpP a.pkg b.pkg := rfl
  refine KW.seq ?_
  refine CW.region (S := noS) [(0, .l), (1, .l), (2, .q)] rfl ?_
  refine EW.box hs rfl rfl rfl rfl rfl rfl ?_
  clear hs; intro b2 w hs
  refine EW.box hs rfl rfl rfl rfl rfl rfl ?_
  clear hs; intro b3 w hs
  refine EW.assign rfl rfl rfl rfl rfl rfl ?_
  refine EW.done ?_
  refine NW.seq ?_
  refine KW.seq ?_
  refine KW.seq ?_
  refine CW.region (S := noS) [(0, .q), (1, .q), (2, .l), (3, .q)] rfl ?_
  refine EW.loadP rfl rfl rfl rfl rfl rfl (by first | assumption | (apply LDP.drew; assumption) | exact St.ld1 hs 0 rfl rfl | exact St.ldA hs 0 rfl rfl rfl | exact St.ld1 hs 1 rfl rfl | exact St.ldA hs 1 rfl rfl rfl | exact St.ld1 hs 2 rfl rfl | exact St.ldA hs 2 rfl rfl rfl | exact St.ld1 hs 3 rfl rfl | exact St.ldA hs 3 rfl rfl rfl | exact St.ld1 hs 4 rfl rfl | exact St.ldA hs 4 rfl rfl rfl | exact St.ld1 hs 5 rfl rfl | exact St.ldA hs 5 rfl rfl rfl | exact St.ld1 hs 6 rfl rfl | exact St.ldA hs 6 rfl rfl rfl) (by first | exact .inl rfl | exact .inr (fun h => h)) ?_
  refine EW.loadP rfl rfl rfl rfl rfl rfl (by first | assumption | (apply LDP.drew; assumption) | exact St.ld1 hs 0 rfl rfl | exact St.ldA hs 0 rfl rfl rfl | exact St.ld1 hs 1 rfl rfl | exact St.ldA hs 1 rfl rfl rfl | exact St.ld1 hs 2 rfl rfl | exact St.ldA hs 2 rfl rfl rfl | exact St.ld1 hs 3 rfl rfl | exact St.ldA hs 3 rfl rfl rfl | exact St.ld1 hs 4 rfl rfl | exact St.ldA hs 4 rfl rfl rfl | exact St.ld1 hs 5 rfl rfl | exact St.ldA hs 5 rfl rfl rfl | exact St.ld1 hs 6 rfl rfl | exact St.ldA hs 6 rfl rfl rfl) (by first | exact .inl rfl | exact .inr (fun h => h)) ?_
  refine EW.callT1 (labelCmp_spec _ _ _ ha hb (hg.stay hs.keep)) rfl rfl rfl rfl rfl Tryz.func48 bd48 nm48 rfl ?_
  intro v8 w hk8 hp8
  subst hp8
  replace hs := hs.stay hk8
  refine EW.assign rfl rfl rfl rfl rfl rfl ?_
  refine EW.done ?_
  refine NW.seq ?_
  refine KW.seq ?_
  refine CW.region (S := noS) [(0, .q), (1, .q)] rfl ?_
  refine EW.move rfl rfl rfl rfl rfl rfl ?_
  refine EW.bin rfl rfl rfl rfl rfl rfl rfl BV.nei ?_
  refine EW.done ?_
  refine NW.seq ?_
  refine KW.cond rfl (fun hc => ?_) (fun hc => ?_)
  · skip
    refine KW.seq ?_
    refine CW.region (S := noS) [(0, .q), (1, .q)] rfl ?_
    refine EW.move rfl rfl rfl rfl rfl rfl ?_
    refine EW.assign rfl rfl rfl rfl rfl rfl ?_
    refine EW.done ?_
    refine NW.seq ?_
    refine KW.ret1 rfl rfl ?_
    refine ⟨_, rfl, hs.keep, ?_⟩
    rw [hab]
  · skip
    have hc' : cmpLab a b = 0 := by rw [hab]; simpa using hc
    have he : a = b := (lawLab.zero a b).1 hc'
    refine KW.skip ?_
    refine NW.seq ?_
    refine KW.seq ?_
    refine CW.region (S := noS) [(0, .q), (1, .q), (2, .q), (3, .q), (4, .l), (5, .q)] rfl ?_
    first | refine EW.fieldAddr rfl rfl rfl rfl rfl rfl ?_ | refine EW.fieldAddrA rfl rfl rfl rfl rfl rfl ?_
    refine EW.loadP rfl rfl rfl rfl rfl rfl (by first | assumption | (apply LDP.drew; assumption) | exact St.ld1 hs 0 rfl rfl | exact St.ldA hs 0 rfl rfl rfl | exact St.ld1 hs 1 rfl rfl | exact St.ldA hs 1 rfl rfl rfl | exact St.ld1 hs 2 rfl rfl | exact St.ldA hs 2 rfl rfl rfl | exact St.ld1 hs 3 rfl rfl | exact St.ldA hs 3 rfl rfl rfl | exact St.ld1 hs 4 rfl rfl | exact St.ldA hs 4 rfl rfl rfl | exact St.ld1 hs 5 rfl rfl | exact St.ldA hs 5 rfl rfl rfl | exact St.ld1 hs 6 rfl rfl | exact St.ldA hs 6 rfl rfl rfl) (by first | exact .inl rfl | exact .inr (fun h => h)) ?_
    first | refine EW.fieldAddr rfl rfl rfl rfl rfl rfl ?_ | refine EW.fieldAddrA rfl rfl rfl rfl rfl rfl ?_
    refine EW.loadP rfl rfl rfl rfl rfl rfl (by first | assumption | (apply LDP.drew; assumption) | exact St.ld1 hs 0 rfl rfl | exact St.ldA hs 0 rfl rfl rfl | exact St.ld1 hs 1 rfl rfl | exact St.ldA hs 1 rfl rfl rfl | exact St.ld1 hs 2 rfl rfl | exact St.ldA hs 2 rfl rfl rfl | exact St.ld1 hs 3 rfl rfl | exact St.ldA hs 3 rfl rfl rfl | exact St.ld1 hs 4 rfl rfl | exact St.ldA hs 4 rfl rfl rfl | exact St.ld1 hs 5 rfl rfl | exact St.ldA hs 5 rfl rfl rfl | exact St.ld1 hs 6 rfl rfl | exact St.ldA hs 6 rfl rfl rfl) (by first | exact .inl rfl | exact .inr (fun h => h)) ?_
    refine EW.callT1 (compare_spec _ _ _) rfl rfl rfl rfl rfl Tryz.func49 bd49 nm49 rfl ?_
    intro v16 w hk16 hp16
    subst hp16
    replace hs := hs.stay hk16
    refine EW.assign rfl rfl rfl rfl rfl rfl ?_
    refine EW.done ?_
    refine NW.seq ?_
    refine KW.ret1 rfl rfl ?_
    refine ⟨_, rfl, hs.keep, ?_⟩
    rw [hc', he]; congr 1; exact (lawS.zero _ _).2 rfl
end Go.Cw.Tryz
set_option linter.unusedVariables false
set_option linter.unusedSimpArgs false
namespace Go.Cw.Tryz
open Go.Proofs Go.Cw
attribute [local irreducible] Go.Addr.add

/-- Labels as keys. -/
def KL : KeyT Tryz.prog Lab := {
  ty := 44
  enc := encL
  check := fun e a w => by kernel_rfl
  und := ⟨_, (by kernel_rfl : Tryz.prog.underlying 44 = some (.struct #[{ name := "Pkg", type := 9, offset := 0, embedded := false, tag := "", pkgPath := "", byteOffset := 0 }, { name := "Name", type := 9, offset := 1, embedded := false, tag := "", pkgPath := "", byteOffset := 16 }])), fun v v' => rfl⟩
  eqv := fun a b w => EqR44 9997 a b w
  bits := fun a => by
    have h : ∀ s : ByteArray, (s == s) = true := fun s => by
      cases s with
      | mk d => exact beq_self_eq_true d
    simp [encL, Instr.sameBits, h] }
theorem ht68 : Tryz.prog.underlying 68 = some (.map KL.ty 30) := by kernel_rfl
theorem hz30 : (Tryz.prog.info? 30).map (·.zero) = some (some (.slice none 0 0)) := by kernel_rfl

/-- The program's graph: a label, where its row lies, the row. -/
abbrev PE := Lab × SV × List Lab
def kvOf (ps : List PE) : List (Lab × Value) := ps.map fun (p : PE) => (p.1, svV p.2.1)
def rwOf (ps : List PE) : List (SV × List Lab) := ps.map fun (p : PE) => (p.2.1, p.2.2)
structure IsPG (ps : List PE) (g : RG) : Prop where
  keys : ps.map (·.1) = g.N
  out : ∀ p ∈ ps, p.2.2 = risingL (outOf g.E p.1)
structure RG.Ok (g : RG) : Prop where
  nodup : g.N.Nodup
  wf : ∀ e ∈ g.E, e.1 ∈ g.N ∧ e.2 ∈ g.N
  enodup : g.E.Nodup
def pgR (b mb : Nat) (ps : List PE) : List Res := [pt b (.cells #[.map (some mb)] 70), mapR KL mb (kvOf ps), rows elL (rwOf ps)]
theorem getM_none (ps : List PE) (a : Lab) : getM (kvOf ps) a = none ↔ a ∉ ps.map (·.1) := by
  induction ps with
  | nil => simp [kvOf, getM]
  | cons p r ih =>
    simp only [kvOf, List.map_cons, getM, List.mem_cons, not_or] at ih ⊢
    by_cases h : a = p.1
    · simp [h]
    · simp [h, ih]
theorem getM_some (ps : List PE) (a : Lab) (v : Value) (h : getM (kvOf ps) a = some v) : ∃ (i : Nat) (p : PE), ps[i]? = some p ∧ p.1 = a ∧ v = svV p.2.1 := by
  induction ps with
  | nil => simp [kvOf, getM] at h
  | cons p r ih =>
    simp only [kvOf, List.map_cons, getM] at ih h
    by_cases ha : a = p.1
    · rw [if_pos ha] at h; injection h with h
      exact ⟨0, p, rfl, ha.symm, h.symm⟩
    · rw [if_neg ha] at h
      obtain ⟨i, q, h1, h2⟩ := ih h
      exact ⟨i + 1, q, h1, h2⟩
theorem getM_at (ps : List PE) (hn : (ps.map (·.1)).Nodup) {i : Nat} {p : PE} (h : ps[i]? = some p) : getM (kvOf ps) p.1 = some (svV p.2.1) := by
  induction ps generalizing i with
  | nil => simp at h
  | cons q r ih =>
    rw [List.map_cons, List.nodup_cons] at hn
    simp only [kvOf, List.map_cons, getM]
    cases i with
    | zero =>
      rw [List.getElem?_cons_zero] at h
      injection h with h; subst h
      rw [if_pos rfl]
    | succ i =>
      rw [List.getElem?_cons_succ] at h
      have hm : p.1 ∈ r.map (·.1) := List.mem_map.2 ⟨p, List.mem_of_getElem? h, rfl⟩
      rw [if_neg (fun e => hn.1 (by rw [← e]; exact hm))]
      exact ih hn.2 h
theorem setM_new (ps : List PE) (a : Lab) (s : SV) (xs : List Lab) (h : a ∉ ps.map (·.1)) : setM (kvOf ps) a (svV s) = kvOf (ps ++ [(a, s, xs)]) := by
  induction ps with
  | nil => rfl
  | cons p r ih =>
    simp only [List.map_cons, List.mem_cons, not_or] at h
    simp only [kvOf, List.map_cons, setM, List.cons_append] at ih ⊢
    rw [if_neg h.1, ih h.2]
theorem setM_at (ps : List PE) (hn : (ps.map (·.1)).Nodup) {i : Nat} {p : PE} (hi : ps[i]? = some p) (s : SV) (xs : List Lab) : setM (kvOf ps) p.1 (svV s) = kvOf (ps.set i (p.1, s, xs)) := by
  induction ps generalizing i with
  | nil => simp at hi
  | cons q r ih =>
    rw [List.map_cons, List.nodup_cons] at hn
    simp only [kvOf, List.map_cons, setM] at ih ⊢
    cases i with
    | zero =>
      rw [List.getElem?_cons_zero] at hi
      injection hi with hi; subst hi
      rw [if_pos rfl]; rfl
    | succ i =>
      rw [List.getElem?_cons_succ] at hi
      have hm : p.1 ∈ r.map (·.1) := List.mem_map.2 ⟨p, List.mem_of_getElem? hi, rfl⟩
      rw [if_neg (fun e => hn.1 (by rw [← e]; exact hm)), ih hn.2 hi]; rfl

/-- A graph of the program that is answered. -/
def IsG (w0 : World) (v : Value) (w' : World) (ps : List PE) : Prop := ∃ b mb, v = .pointer (some ⟨b, 0, none⟩) ∧ St w0 noS w' (pgR b mb ps)
theorem build70 (b : Nat) : ∀ w, (Instr.build 70 [(0, .map (some b))].toArray).run Tryz.prog w = .ok (.agg #[.map (some b)]) w := fun w => by kernel_rfl
theorem New_spec (w0 : World) : T1 Tryz.prog 18 [] w0 fun v w' => IsG w0 v w' [] := by
  refine KW.enterT1 (n := 4) Tryz.func18 rfl rfl rfl ?_
  have hs := St.init w0 noS
  refine KW.seq ?_
  refine CW.region (S := noS) [(0, .q)] rfl ?_
  refine EW.assign rfl rfl rfl rfl rfl rfl ?_
  refine EW.done ?_
  refine NW.seq ?_
  refine KW.seq ?_
  refine CW.region (S := noS) [(0, .l), (1, .q), (2, .l), (3, .q)] rfl ?_
  refine EW.makeMap KL hs rfl rfl rfl rfl rfl ?_
  clear hs; intro b1 w hs
  refine EW.build (α := Unit) (pv := [(0, .map (some b1))]) rfl rfl rfl rfl rfl rfl rfl (build70 b1) ?_
  refine EW.box hs rfl rfl rfl rfl rfl rfl ?_
  clear hs; intro b3 w hs
  refine EW.assign rfl rfl rfl rfl rfl rfl ?_
  refine EW.done ?_
  refine NW.seq ?_
  replace hs := hs.rowsNil elL
  refine KW.ret1 rfl rfl ?_
  refine ⟨_, rfl, hs.keep, ?_⟩
  exact ⟨b3, b1, rfl, hs.pick [1, 2, 0] (by decide)⟩

theorem outOf_nil {g : RG} (hw : g.Ok) {a : Lab} (h : a ∉ g.N) : outOf g.E a = [] := by
  unfold outOf
  rw [List.map_eq_nil_iff, List.filter_eq_nil_iff]
  intro e he hd
  have : e.1 = a := by simpa using hd
  exact h (this ▸ (hw.wf e he).1)
theorem RG.Ok.node {g : RG} (h : g.Ok) (a : Lab) : (g.node a).Ok := by
  unfold RG.node
  split
  · exact h
  · rename_i ha
    refine ⟨List.nodup_append.2 ⟨h.nodup, by simp, ?_⟩, fun e he => ?_, h.enodup⟩
    · intro x hx y hy e
      rw [List.mem_singleton.1 hy] at e; exact ha (e ▸ hx)
    · exact ⟨List.mem_append_left _ (h.wf e he).1, List.mem_append_left _ (h.wf e he).2⟩
theorem Node_spec (w0 : World) (b mb : Nat) (ps : List PE) (g : RG) (a : Lab) (hs : St w0 (fpU (pgR b mb ps)) w0 (pgR b mb ps)) (hp : IsPG ps g) (hok : g.Ok) :
    T3 Tryz.prog 26 [.pointer (some ⟨b, 0, none⟩), encL a] w0 (pgR b mb ps) fun v w' H' => ∃ ps', H' = pgR b mb ps' ∧ IsPG ps' (g.node a) := by
  refine KW.enterT3 (n := 22) Tryz.func26 rfl rfl rfl ?_
  unfold pgR at hs
  refine KW.seq ?_
  refine CW.region (S := noS) [(0, .l)] rfl ?_
  refine EW.box hs rfl rfl rfl rfl rfl rfl ?_
  clear hs; intro b3 w hs
  refine EW.done ?_
  refine NW.seq ?_
  refine KW.seq ?_
  refine CW.regionD (noS) [(0, .q), (1, .q), (2, .q), (3, .q), (4, .q), (5, .q), (6, .q), (7, .q), (8, .q), (9, .q), (10, .q)] mixed (by kernel_rfl) ?_
  replace hs := hs.drew
  refine EW.move rfl rfl rfl rfl rfl rfl ?_
  refine EW.nilCheck rfl rfl rfl rfl rfl rfl ?_
  first | refine EW.fieldAddr rfl rfl rfl rfl rfl rfl ?_ | refine EW.fieldAddrA rfl rfl rfl rfl rfl rfl ?_
  refine EW.loadP rfl rfl rfl rfl rfl rfl (by first | assumption | (apply LDP.drew; assumption) | exact St.ld1 hs 0 rfl rfl | exact St.ldA hs 0 rfl rfl rfl | exact St.ld1 hs 1 rfl rfl | exact St.ldA hs 1 rfl rfl rfl | exact St.ld1 hs 2 rfl rfl | exact St.ldA hs 2 rfl rfl rfl | exact St.ld1 hs 3 rfl rfl | exact St.ldA hs 3 rfl rfl rfl | exact St.ld1 hs 4 rfl rfl | exact St.ldA hs 4 rfl rfl rfl | exact St.ld1 hs 5 rfl rfl | exact St.ldA hs 5 rfl rfl rfl | exact St.ld1 hs 6 rfl rfl | exact St.ldA hs 6 rfl rfl rfl) (by first | exact .inl rfl | exact .inr (fun h => h)) ?_
  refine EW.loadP rfl rfl rfl rfl rfl rfl (by first | assumption | (apply LDP.drew; assumption) | exact St.ld1 hs 0 rfl rfl | exact St.ldA hs 0 rfl rfl rfl | exact St.ld1 hs 1 rfl rfl | exact St.ldA hs 1 rfl rfl rfl | exact St.ld1 hs 2 rfl rfl | exact St.ldA hs 2 rfl rfl rfl | exact St.ld1 hs 3 rfl rfl | exact St.ldA hs 3 rfl rfl rfl | exact St.ld1 hs 4 rfl rfl | exact St.ldA hs 4 rfl rfl rfl | exact St.ld1 hs 5 rfl rfl | exact St.ldA hs 5 rfl rfl rfl | exact St.ld1 hs 6 rfl rfl | exact St.ldA hs 6 rfl rfl rfl) (by first | exact .inl rfl | exact .inr (fun h => h)) ?_
  refine EW.lookup (K := KL) (a := a) (hs.res 2 rfl) hz30 ht68 rfl rfl rfl rfl rfl rfl rfl (.inr (fun h => h)) ?_
  refine EW.move rfl rfl rfl rfl rfl rfl ?_
  refine EW.extract rfl rfl rfl rfl rfl rfl rfl ?_
  refine EW.extract rfl rfl rfl rfl rfl rfl rfl ?_
  refine EW.assign rfl rfl rfl rfl rfl rfl ?_
  refine EW.assign rfl rfl rfl rfl rfl rfl ?_
  refine EW.done ?_
  refine NW.seq ?_
  refine KW.seq ?_
  refine CW.region (S := noS) [(0, .q), (1, .q)] rfl ?_
  refine EW.move rfl rfl rfl rfl rfl rfl ?_
  refine EW.not rfl rfl rfl rfl rfl rfl ?_
  refine EW.done ?_
  refine NW.seq ?_
  refine KW.cond rfl (fun h1 => ?_) (fun h1 => ?_)
  · skip
    have h1' : getM (kvOf ps) a = none := by simpa using h1
    have hna := (getM_none ps a).1 h1'
    refine CW.regionD (noS) [(0, .q), (1, .q), (2, .q), (3, .q), (4, .q), (5, .b)] mixed (by kernel_rfl) ?_
    replace hs := hs.drew
    refine EW.move rfl rfl rfl rfl rfl rfl ?_
    refine EW.nilCheck rfl rfl rfl rfl rfl rfl ?_
    first | refine EW.fieldAddr rfl rfl rfl rfl rfl rfl ?_ | refine EW.fieldAddrA rfl rfl rfl rfl rfl rfl ?_
    refine EW.loadP rfl rfl rfl rfl rfl rfl (by first | assumption | (apply LDP.drew; assumption) | exact St.ld1 hs 0 rfl rfl | exact St.ldA hs 0 rfl rfl rfl | exact St.ld1 hs 1 rfl rfl | exact St.ldA hs 1 rfl rfl rfl | exact St.ld1 hs 2 rfl rfl | exact St.ldA hs 2 rfl rfl rfl | exact St.ld1 hs 3 rfl rfl | exact St.ldA hs 3 rfl rfl rfl | exact St.ld1 hs 4 rfl rfl | exact St.ldA hs 4 rfl rfl rfl | exact St.ld1 hs 5 rfl rfl | exact St.ldA hs 5 rfl rfl rfl | exact St.ld1 hs 6 rfl rfl | exact St.ldA hs 6 rfl rfl rfl) (by first | exact .inl rfl | exact .inr (fun h => h)) ?_
    refine EW.loadP rfl rfl rfl rfl rfl rfl (by first | assumption | (apply LDP.drew; assumption) | exact St.ld1 hs 0 rfl rfl | exact St.ldA hs 0 rfl rfl rfl | exact St.ld1 hs 1 rfl rfl | exact St.ldA hs 1 rfl rfl rfl | exact St.ld1 hs 2 rfl rfl | exact St.ldA hs 2 rfl rfl rfl | exact St.ld1 hs 3 rfl rfl | exact St.ldA hs 3 rfl rfl rfl | exact St.ld1 hs 4 rfl rfl | exact St.ldA hs 4 rfl rfl rfl | exact St.ld1 hs 5 rfl rfl | exact St.ldA hs 5 rfl rfl rfl | exact St.ld1 hs 6 rfl rfl | exact St.ldA hs 6 rfl rfl rfl) (by first | exact .inl rfl | exact .inr (fun h => h)) ?_
    refine EW.mapUpdateB hs 2 (K := KL) (a := a) ht68 rfl rfl rfl rfl rfl rfl rfl rfl ?_
    clear hs; intro w hs; dsimp only [List.set] at hs
    refine EW.done ?_
    have e := setM_new ps a (none, 0, 0) [] hna
    rw [show (Value.slice none 0 0) = svV (none, 0, 0) from rfl, e] at hs
    replace hs := hs.nil elL
    have hs2 := (hs.pick [4, 0, 1, 2, 3] (by decide))
    simp only [List.filterMap_cons, List.filterMap_nil, List.getElem?_cons_succ, List.getElem?_cons_zero] at hs2
    replace hs2 := St.rowAdd (s := (none, 0, 0)) hs2
    refine NW.end0 rfl ?_
    refine ⟨_, rfl, hs.keep, ?_⟩
    refine ⟨pgR b mb (ps ++ [(a, (none, 0, 0), [])]), ?_, _, rfl, ?_⟩
    · have := hs2.pick [2, 3, 0] (by decide)
      simpa [pgR, rwOf] using this
    · rw [RG.node, if_neg (by rw [← hp.keys]; exact hna)]
      refine ⟨by simp [hp.keys], fun p hpm => ?_⟩
      rcases List.mem_append.1 hpm with h | h
      · exact hp.out p h
      · rw [List.mem_singleton.1 h]
        show [] = _
        rw [outOf_nil hok (by rw [← hp.keys]; exact hna)]; rfl
  · skip
    have h1' : getM (kvOf ps) a ≠ none := by
      intro h; rw [h] at h1; simp at h1
    have hin : a ∈ g.N := by
      rw [← hp.keys]; exact Classical.byContradiction fun h => h1' ((getM_none ps a).2 h)
    refine KW.skip ?_
    refine NW.end0 rfl ?_
    refine ⟨_, rfl, hs.keep, ?_⟩
    refine ⟨pgR b mb ps, hs.tail, _, rfl, ?_⟩
    rw [RG.node, if_pos hin]; exact hp
end Go.Cw.Tryz
set_option linter.unusedVariables false
set_option linter.unusedSimpArgs false
namespace Go.Cw.Tryz
open Go.Proofs Go.Cw
attribute [local irreducible] Go.Addr.add

def elI : El Tryz.prog Int := {
  ty := 3
  size := 1
  bytes := 8
  enc := fun x => .int .i64 x
  zero := .int .i64 0
  info := by kernel_rfl
  zsize := rfl
  pos := by decide
  posb := by decide
  cells := fun _ => rfl
  one := fun x u hu => by
    obtain rfl : u = .int .i64 x := by simpa [Value.cells] using hu
    rfl
  ld := fun w p x h => LD.one (by simpa [Addr.add] using h 0 (.int .i64 x) rfl) }

theorem CloneL_spec (w0 : World) (A : Option Addr) (c : Nat) (xs : List Lab) (hx : SlA elL w0 A xs) (hl : xs.length ≤ 1000000) :
    T1 Tryz.prog 37 [.slice A xs.length c] w0 fun v w' => Fresh elL w0 w' v xs := by
  refine KW.enterT1 (n := 8) Tryz.func37 rfl rfl rfl ?_
  have hs := St.init w0 noS
  refine KW.seq ?_
  refine CW.region (S := noS) [(0, .q)] rfl ?_
  refine EW.assign rfl rfl rfl rfl rfl rfl ?_
  refine EW.done ?_
  refine NW.seq ?_
  refine KW.seq ?_
  refine KW.seq ?_
  refine CW.region (S := noS) [(0, .q), (1, .q)] rfl ?_
  refine EW.move rfl rfl rfl rfl rfl rfl ?_
  refine EW.bin rfl rfl rfl rfl rfl rfl rfl BV.slnil ?_
  refine EW.done ?_
  refine NW.seq ?_
  refine KW.cond rfl (fun h1 => ?_) (fun h1 => ?_)
  · skip
    have h1' : A = none := by simpa using h1
    have : xs = [] := by
      cases xs with
      | nil => rfl
      | cons y t => obtain ⟨ad, h, _⟩ := hx.some_ (by simp); rw [h1'] at h; cases h
    subst this
    refine KW.seq ?_
    refine CW.region (S := noS) [(0, .q)] rfl ?_
    refine EW.assign rfl rfl rfl rfl rfl rfl ?_
    refine EW.done ?_
    refine NW.seq ?_
    refine KW.ret1 rfl rfl ?_
    refine ⟨_, rfl, hs.keep, ?_⟩
    exact Fresh.nil elL _ _
  · skip
    refine KW.skip ?_
    refine NW.seq ?_
    refine KW.seq ?_
    refine CW.region (S := noS) [(0, .l), (1, .q), (2, .l), (3, .q)] rfl ?_
    refine EW.lit0 elL hs rfl rfl rfl rfl rfl ?_
    clear hs; intro b5 w hs
    refine EW.move rfl rfl rfl rfl rfl rfl ?_
    refine EW.appendAny elL 0 hs rfl (hx.stay hs.keep) (by show (0 + xs.length) * 32 ≤ 140737488355328; omega) (.inl rfl) rfl rfl rfl rfl rfl rfl rfl ?_
    clear hs; intro v7 w hs; dsimp only [List.set, List.nil_append] at hs
    refine EW.assign rfl rfl rfl rfl rfl rfl ?_
    refine EW.done ?_
    refine NW.seq ?_
    refine KW.ret1 rfl rfl ?_
    refine ⟨_, rfl, hs.keep, ?_⟩
    exact hs.to_fresh 0 rfl
theorem CloneI_spec (w0 : World) (A : Option Addr) (c : Nat) (xs : List Int) (hx : SlA elI w0 A xs) (hl : xs.length ≤ 1000000) :
    T1 Tryz.prog 54 [.slice A xs.length c] w0 fun v w' => Fresh elI w0 w' v xs := by
  refine KW.enterT1 (n := 8) Tryz.func54 rfl rfl rfl ?_
  have hs := St.init w0 noS
  refine KW.seq ?_
  refine CW.region (S := noS) [(0, .q)] rfl ?_
  refine EW.assign rfl rfl rfl rfl rfl rfl ?_
  refine EW.done ?_
  refine NW.seq ?_
  refine KW.seq ?_
  refine KW.seq ?_
  refine CW.region (S := noS) [(0, .q), (1, .q)] rfl ?_
  refine EW.move rfl rfl rfl rfl rfl rfl ?_
  refine EW.bin rfl rfl rfl rfl rfl rfl rfl BV.slnil ?_
  refine EW.done ?_
  refine NW.seq ?_
  refine KW.cond rfl (fun h1 => ?_) (fun h1 => ?_)
  · skip
    have h1' : A = none := by simpa using h1
    have : xs = [] := by
      cases xs with
      | nil => rfl
      | cons y t => obtain ⟨ad, h, _⟩ := hx.some_ (by simp); rw [h1'] at h; cases h
    subst this
    refine KW.seq ?_
    refine CW.region (S := noS) [(0, .q)] rfl ?_
    refine EW.assign rfl rfl rfl rfl rfl rfl ?_
    refine EW.done ?_
    refine NW.seq ?_
    refine KW.ret1 rfl rfl ?_
    refine ⟨_, rfl, hs.keep, ?_⟩
    exact Fresh.nil elI _ _
  · skip
    refine KW.skip ?_
    refine NW.seq ?_
    refine KW.seq ?_
    refine CW.region (S := noS) [(0, .l), (1, .q), (2, .l), (3, .q)] rfl ?_
    refine EW.lit0 elI hs rfl rfl rfl rfl rfl ?_
    clear hs; intro b5 w hs
    refine EW.move rfl rfl rfl rfl rfl rfl ?_
    refine EW.appendAny elI 0 hs rfl (hx.stay hs.keep) (by show (0 + xs.length) * 8 ≤ 140737488355328; omega) (.inl rfl) rfl rfl rfl rfl rfl rfl rfl ?_
    clear hs; intro v7 w hs; dsimp only [List.set, List.nil_append] at hs
    refine EW.assign rfl rfl rfl rfl rfl rfl ?_
    refine EW.done ?_
    refine NW.seq ?_
    refine KW.ret1 rfl rfl ?_
    refine ⟨_, rfl, hs.keep, ?_⟩
    exact hs.to_fresh 0 rfl

/-- The first place of a, or -1. -/
def IdxAt {α : Type} (xs : List α) (a : α) (r : Int) : Prop := (∃ j : Nat, xs[j]? = some a ∧ (∀ t, t < j → xs[t]? ≠ some a) ∧ r = j) ∨ (a ∉ xs ∧ r = -1)
theorem IndexL_spec (w0 : World) (A : Option Addr) (c : Nat) (xs : List Lab) (a : Lab) (hx : SlA elL w0 A xs) (hl : xs.length ≤ 1000000) :
    T1 Tryz.prog 46 [.slice A xs.length c, encL a] w0 fun v w' => ∃ r, v = .int .i64 r ∧ IdxAt xs a r := by
  refine KW.enterT1 (n := 19) Tryz.func46 rfl rfl rfl ?_
  have hs := St.init w0 noS
  refine KW.seq ?_
  refine CW.region (S := noS) [(0, .l), (1, .q)] rfl ?_
  refine EW.box hs rfl rfl rfl rfl rfl rfl ?_
  clear hs; intro b3 w hs
  refine EW.assign rfl rfl rfl rfl rfl rfl ?_
  refine EW.done ?_
  refine NW.seq ?_
  refine KW.seq ?_
  refine KW.seq ?_
  refine CW.region (S := noS) [(0, .q), (1, .q), (2, .q)] rfl ?_
  refine EW.move rfl rfl rfl rfl rfl rfl ?_
  refine EW.len rfl rfl rfl rfl rfl rfl ?_
  refine EW.move rfl rfl rfl rfl rfl rfl ?_
  refine EW.done ?_
  refine NW.seq ?_
  refine KW.block ?_
  refine KW.loop (ι := Nat) (fun k => xs.length - k) (fun k => [(0, .slice A xs.length c), (3, .pointer (some ⟨b3, 0, none⟩)), (7, .int .i64 (xs.length : Int)), (8, .int .i64 (k : Int))]) (fun k w => k ≤ xs.length ∧ (∀ t, t < k → xs[t]? ≠ some a) ∧ St w0 noS w [pt b3 (.cells (encL a).cells 44)]) 0 (by repeat (first | exact trivial | (refine ⟨by first | rfl | (congr 2; omega) | (simp; done) | (congr 1; simp; done), ?_⟩))) ?_ ?_
  · exact ⟨Nat.zero_le _, by simp, hs⟩
  clear hs
  rintro k w ⟨hka, hno, hs⟩
  refine KW.seq ?_
  refine CW.region (S := noS) [(0, .q)] rfl ?_
  refine EW.bin rfl rfl rfl rfl rfl rfl rfl BV.lss ?_
  refine EW.done ?_
  refine NW.seq ?_
  refine KW.seq ?_
  by_cases hlt : k < xs.length
  · refine CW.cond_t rfl (by simpa using hlt) ?_
    obtain ⟨ad, rfl, _, hld⟩ := (hx.stay hs.keep).at_ hlt
    have g1 : LDP Tryz.prog w 44 (ad.add ((k : Int).toNat * 2)) (encL xs[k]) := hld k xs[k] (by simp)
    replace g1 := g1.keep (Keep.drew (S := noS) w) (fun h => h)
    refine KW.skip ?_
    refine NW.seq ?_
    refine KW.seq ?_
    refine KW.block ?_
    refine KW.seq ?_
    refine CW.region (S := noS) [(0, .q), (1, .q)] rfl ?_
    refine EW.move rfl rfl rfl rfl rfl rfl ?_
    refine EW.assign rfl rfl rfl rfl rfl rfl ?_
    refine EW.done ?_
    refine NW.seq ?_
    refine KW.seq ?_
    refine CW.regionD (noS) [(0, .q), (1, .q), (2, .q), (3, .q), (4, .q), (5, .q)] mixed (by kernel_rfl) ?_
    replace hs := hs.drew
    refine EW.loadP rfl rfl rfl rfl rfl rfl (by first | assumption | (apply LDP.drew; assumption) | exact St.ld1 hs 0 rfl rfl | exact St.ldA hs 0 rfl rfl rfl | exact St.ld1 hs 1 rfl rfl | exact St.ldA hs 1 rfl rfl rfl | exact St.ld1 hs 2 rfl rfl | exact St.ldA hs 2 rfl rfl rfl | exact St.ld1 hs 3 rfl rfl | exact St.ldA hs 3 rfl rfl rfl | exact St.ld1 hs 4 rfl rfl | exact St.ldA hs 4 rfl rfl rfl | exact St.ld1 hs 5 rfl rfl | exact St.ldA hs 5 rfl rfl rfl | exact St.ld1 hs 6 rfl rfl | exact St.ldA hs 6 rfl rfl rfl) (by first | exact .inl rfl | exact .inr (fun h => h)) ?_
    refine EW.move rfl rfl rfl rfl rfl rfl ?_
    refine EW.move rfl rfl rfl rfl rfl rfl ?_
    refine EW.indexAddr rfl rfl rfl rfl rfl rfl rfl (by omega) (by omega) ?_
    refine EW.loadP rfl rfl rfl rfl rfl rfl (by first | assumption | (apply LDP.drew; assumption) | exact St.ld1 hs 0 rfl rfl | exact St.ldA hs 0 rfl rfl rfl | exact St.ld1 hs 1 rfl rfl | exact St.ldA hs 1 rfl rfl rfl | exact St.ld1 hs 2 rfl rfl | exact St.ldA hs 2 rfl rfl rfl | exact St.ld1 hs 3 rfl rfl | exact St.ldA hs 3 rfl rfl rfl | exact St.ld1 hs 4 rfl rfl | exact St.ldA hs 4 rfl rfl rfl | exact St.ld1 hs 5 rfl rfl | exact St.ldA hs 5 rfl rfl rfl | exact St.ld1 hs 6 rfl rfl | exact St.ldA hs 6 rfl rfl rfl) (by first | exact .inl rfl | exact .inr (fun h => h)) ?_
    refine EW.bin rfl rfl rfl rfl rfl rfl rfl (BVeq44) ?_
    refine EW.done ?_
    refine NW.seq ?_
    refine KW.cond rfl (fun h1 => ?_) (fun h1 => ?_)
    · skip
      have h1' : a = xs[k] := by simpa using h1
      refine KW.seq ?_
      refine CW.region (S := noS) [(0, .q), (1, .q)] rfl ?_
      refine EW.move rfl rfl rfl rfl rfl rfl ?_
      refine EW.assign rfl rfl rfl rfl rfl rfl ?_
      refine EW.done ?_
      refine NW.seq ?_
      refine KW.ret1 rfl rfl ?_
      refine ⟨_, rfl, hs.keep, ?_⟩
      exact ⟨_, rfl, .inl ⟨k, by rw [h1']; simp, hno, rfl⟩⟩
    · skip
      have h1' : a ≠ xs[k] := by simpa using h1
      refine KW.skip ?_
      refine NW.blk ?_
      refine NW.seq ?_
      refine CW.region (S := noS) [(0, .q), (1, .q)] rfl ?_
      refine EW.bin rfl rfl rfl rfl rfl rfl rfl (BV.add (wrap_i64 (by omega) (by omega))) ?_
      refine EW.move rfl rfl rfl rfl rfl rfl ?_
      refine EW.done ?_
      refine NW.again (k + 1) (by first | assumption | (dsimp only; omega) | omega | (simp; omega)) (by repeat (first | exact trivial | (refine ⟨by first | rfl | (congr 2; omega) | (simp; done) | (congr 1; simp; done), ?_⟩))) ?_
      try dsimp only
      refine ⟨hlt, fun t ht => ?_, hs⟩
      by_cases htk : t < k
      · exact hno t htk
      · have : t = k := by omega
        subst this
        rw [List.getElem?_eq_getElem hlt]
        intro h; injection h with h; exact h1' h.symm
  · refine CW.cond_f rfl (by simpa using hlt) ?_
    refine KW.exit ?_
    refine XW.seq ?_
    refine XW.inv ?_
    refine XW.blk ?_
    refine NW.seq ?_
    refine KW.seq ?_
    refine CW.region (S := noS) [(0, .q)] rfl ?_
    refine EW.assign rfl rfl rfl rfl rfl rfl ?_
    refine EW.done ?_
    refine NW.seq ?_
    refine KW.ret1 rfl rfl ?_
    refine ⟨_, rfl, hs.keep, ?_⟩
    refine ⟨_, rfl, .inr ⟨fun hm => ?_, rfl⟩⟩
    obtain ⟨j, hj⟩ := List.mem_iff_getElem?.1 hm
    exact hno j (by have := (List.getElem?_eq_some_iff.1 hj).1; omega) hj
theorem IndexI_spec (w0 : World) (A : Option Addr) (c : Nat) (xs : List Int) (a : Int) (hx : SlA elI w0 A xs) (hl : xs.length ≤ 1000000) :
    T1 Tryz.prog 53 [.slice A xs.length c, .int .i64 a] w0 fun v w' => ∃ r, v = .int .i64 r ∧ IdxAt xs a r := by
  refine KW.enterT1 (n := 19) Tryz.func53 rfl rfl rfl ?_
  have hs := St.init w0 noS
  refine KW.seq ?_
  refine CW.region (S := noS) [(0, .q)] rfl ?_
  refine EW.assign rfl rfl rfl rfl rfl rfl ?_
  refine EW.done ?_
  refine NW.seq ?_
  refine KW.seq ?_
  refine KW.seq ?_
  refine CW.region (S := noS) [(0, .q), (1, .q), (2, .q)] rfl ?_
  refine EW.move rfl rfl rfl rfl rfl rfl ?_
  refine EW.len rfl rfl rfl rfl rfl rfl ?_
  refine EW.move rfl rfl rfl rfl rfl rfl ?_
  refine EW.done ?_
  refine NW.seq ?_
  refine KW.block ?_
  refine KW.loop (ι := Nat) (fun k => xs.length - k) (fun k => [(0, .slice A xs.length c), (1, .int .i64 a), (7, .int .i64 (xs.length : Int)), (8, .int .i64 (k : Int))]) (fun k w => k ≤ xs.length ∧ (∀ t, t < k → xs[t]? ≠ some a) ∧ St w0 noS w []) 0 (by repeat (first | exact trivial | (refine ⟨by first | rfl | (congr 2; omega) | (simp; done) | (congr 1; simp; done), ?_⟩))) ?_ ?_
  · exact ⟨Nat.zero_le _, by simp, hs⟩
  clear hs
  rintro k w ⟨hka, hno, hs⟩
  refine KW.seq ?_
  refine CW.region (S := noS) [(0, .q)] rfl ?_
  refine EW.bin rfl rfl rfl rfl rfl rfl rfl BV.lss ?_
  refine EW.done ?_
  refine NW.seq ?_
  refine KW.seq ?_
  by_cases hlt : k < xs.length
  · refine CW.cond_t rfl (by simpa using hlt) ?_
    obtain ⟨ad, rfl, _, hld⟩ := (hx.stay hs.keep).at_ hlt
    have g1 : LDP Tryz.prog w 3 (ad.add ((k : Int).toNat * 1)) (.int .i64 xs[k]) := hld k xs[k] (by simp)
    refine KW.skip ?_
    refine NW.seq ?_
    refine KW.seq ?_
    refine KW.block ?_
    refine KW.seq ?_
    refine CW.region (S := noS) [(0, .q), (1, .q)] rfl ?_
    refine EW.move rfl rfl rfl rfl rfl rfl ?_
    refine EW.assign rfl rfl rfl rfl rfl rfl ?_
    refine EW.done ?_
    refine NW.seq ?_
    refine KW.seq ?_
    refine CW.region (S := noS) [(0, .q), (1, .q), (2, .q), (3, .q), (4, .q), (5, .q)] rfl ?_
    refine EW.move rfl rfl rfl rfl rfl rfl ?_
    refine EW.move rfl rfl rfl rfl rfl rfl ?_
    refine EW.move rfl rfl rfl rfl rfl rfl ?_
    refine EW.indexAddr rfl rfl rfl rfl rfl rfl rfl (by omega) (by omega) ?_
    refine EW.loadP rfl rfl rfl rfl rfl rfl (by first | assumption | (apply LDP.drew; assumption) | exact St.ld1 hs 0 rfl rfl | exact St.ldA hs 0 rfl rfl rfl | exact St.ld1 hs 1 rfl rfl | exact St.ldA hs 1 rfl rfl rfl | exact St.ld1 hs 2 rfl rfl | exact St.ldA hs 2 rfl rfl rfl | exact St.ld1 hs 3 rfl rfl | exact St.ldA hs 3 rfl rfl rfl | exact St.ld1 hs 4 rfl rfl | exact St.ldA hs 4 rfl rfl rfl | exact St.ld1 hs 5 rfl rfl | exact St.ldA hs 5 rfl rfl rfl | exact St.ld1 hs 6 rfl rfl | exact St.ldA hs 6 rfl rfl rfl) (by first | exact .inl rfl | exact .inr (fun h => h)) ?_
    refine EW.bin rfl rfl rfl rfl rfl rfl rfl BV.eqi ?_
    refine EW.done ?_
    refine NW.seq ?_
    refine KW.cond rfl (fun h1 => ?_) (fun h1 => ?_)
    · skip
      have h1' : a = xs[k] := by simpa using h1
      refine KW.seq ?_
      refine CW.region (S := noS) [(0, .q), (1, .q)] rfl ?_
      refine EW.move rfl rfl rfl rfl rfl rfl ?_
      refine EW.assign rfl rfl rfl rfl rfl rfl ?_
      refine EW.done ?_
      refine NW.seq ?_
      refine KW.ret1 rfl rfl ?_
      refine ⟨_, rfl, hs.keep, ?_⟩
      exact ⟨_, rfl, .inl ⟨k, by rw [h1']; simp, hno, rfl⟩⟩
    · skip
      have h1' : a ≠ xs[k] := by simpa using h1
      refine KW.skip ?_
      refine NW.blk ?_
      refine NW.seq ?_
      refine CW.region (S := noS) [(0, .q), (1, .q)] rfl ?_
      refine EW.bin rfl rfl rfl rfl rfl rfl rfl (BV.add (wrap_i64 (by omega) (by omega))) ?_
      refine EW.move rfl rfl rfl rfl rfl rfl ?_
      refine EW.done ?_
      refine NW.again (k + 1) (by first | assumption | (dsimp only; omega) | omega | (simp; omega)) (by repeat (first | exact trivial | (refine ⟨by first | rfl | (congr 2; omega) | (simp; done) | (congr 1; simp; done), ?_⟩))) ?_
      try dsimp only
      refine ⟨hlt, fun t ht => ?_, hs⟩
      by_cases htk : t < k
      · exact hno t htk
      · have : t = k := by omega
        subst this
        rw [List.getElem?_eq_getElem hlt]
        intro h; injection h with h; exact h1' h.symm
  · refine CW.cond_f rfl (by simpa using hlt) ?_
    refine KW.exit ?_
    refine XW.seq ?_
    refine XW.inv ?_
    refine XW.blk ?_
    refine NW.seq ?_
    refine KW.seq ?_
    refine CW.region (S := noS) [(0, .q)] rfl ?_
    refine EW.assign rfl rfl rfl rfl rfl rfl ?_
    refine EW.done ?_
    refine NW.seq ?_
    refine KW.ret1 rfl rfl ?_
    refine ⟨_, rfl, hs.keep, ?_⟩
    refine ⟨_, rfl, .inr ⟨fun hm => ?_, rfl⟩⟩
    obtain ⟨j, hj⟩ := List.mem_iff_getElem?.1 hm
    exact hno j (by have := (List.getElem?_eq_some_iff.1 hj).1; omega) hj
theorem ContainsL_spec (w0 : World) (A : Option Addr) (c : Nat) (xs : List Lab) (a : Lab) (hx : SlA elL w0 A xs) (hl : xs.length ≤ 1000000) :
    T1 Tryz.prog 33 [.slice A xs.length c, encL a] w0 fun v w' => v = .bool (decide (a ∈ xs)) := by
  refine KW.enterT1 (n := 9) Tryz.func33 rfl rfl rfl ?_
  have hs := St.init w0 noS
  refine KW.seq ?_
  refine CW.region (S := noS) [(0, .l), (1, .q)] rfl ?_
  refine EW.box hs rfl rfl rfl rfl rfl rfl ?_
  clear hs; intro b3 w hs
  refine EW.assign rfl rfl rfl rfl rfl rfl ?_
  refine EW.done ?_
  refine NW.seq ?_
  refine KW.seq ?_
  refine CW.region (S := noS) [(0, .q), (1, .q), (2, .l), (3, .q), (4, .q)] rfl ?_
  refine EW.move rfl rfl rfl rfl rfl rfl ?_
  refine EW.loadP rfl rfl rfl rfl rfl rfl (by first | assumption | (apply LDP.drew; assumption) | exact St.ld1 hs 0 rfl rfl | exact St.ldA hs 0 rfl rfl rfl | exact St.ld1 hs 1 rfl rfl | exact St.ldA hs 1 rfl rfl rfl | exact St.ld1 hs 2 rfl rfl | exact St.ldA hs 2 rfl rfl rfl | exact St.ld1 hs 3 rfl rfl | exact St.ldA hs 3 rfl rfl rfl | exact St.ld1 hs 4 rfl rfl | exact St.ldA hs 4 rfl rfl rfl | exact St.ld1 hs 5 rfl rfl | exact St.ldA hs 5 rfl rfl rfl | exact St.ld1 hs 6 rfl rfl | exact St.ldA hs 6 rfl rfl rfl) (by first | exact .inl rfl | exact .inr (fun h => h)) ?_
  refine EW.callT1 (IndexL_spec _ A c xs a (hx.stay hs.keep) hl) rfl rfl rfl rfl rfl Tryz.func46 bd46 nm46 rfl ?_
  intro v7 w hk7 hp7
  obtain ⟨r, rfl, hr⟩ := hp7
  replace hs := hs.stay hk7
  refine EW.bin rfl rfl rfl rfl rfl rfl rfl BV.geq ?_
  refine EW.assign rfl rfl rfl rfl rfl rfl ?_
  refine EW.done ?_
  refine NW.seq ?_
  refine KW.ret1 rfl rfl ?_
  refine ⟨_, rfl, hs.keep, ?_⟩
  congr 1
  rcases hr with ⟨j, hj, _, rfl⟩ | ⟨hn, rfl⟩
  · have := List.mem_of_getElem? hj
    simp [this]
  · simp [hn]
end Go.Cw.Tryz
set_option linter.unusedVariables false
set_option linter.unusedSimpArgs false
namespace Go.Cw.Tryz
open Go.Proofs Go.Cw
attribute [local irreducible] Go.Addr.add

/-- Where y stands, or would stand. -/
structure Spot (xs : List Lab) (y : Lab) (p : Nat) : Prop where
  le : p ≤ xs.length
  lo : ∀ t, t < p → ∀ z, xs[t]? = some z → ltLab z y = true
  hi : ∀ t, p ≤ t → ∀ z, xs[t]? = some z → ltLab z y = false
theorem lt_cmp (a b : Lab) : ltLab a b = true ↔ cmpLab a b < 0 := by simp [ltLab]
theorem Search_spec (w0 : World) (A : Option Addr) (c : Nat) (xs : List Lab) (y : Lab) (hx : SlA elL w0 A xs) (hso : SortedL xs) (hl : xs.length ≤ 1000000) (hsm : ∀ x ∈ xs, Sm x) (hy : Sm y) (hg : GL w0) :
    T1 Tryz.prog 38 [.slice A xs.length c, encL y, .func (.func 36) #[] #[]] w0 fun v w' => ∃ p : Nat, v = .tuple #[.int .i64 (p : Int), .bool (decide (y ∈ xs))] ∧ Spot xs y p := by
  have hmono : ∀ i j a b, i < j → xs[i]? = some a → xs[j]? = some b → ltLab a b = true := fun i j a b hij ha hb => by
    obtain ⟨h1, h2⟩ := List.getElem?_eq_some_iff.1 ha
    obtain ⟨h3, h4⟩ := List.getElem?_eq_some_iff.1 hb
    have := List.pairwise_iff_getElem.1 hso i j h1 h3 hij
    rwa [h2, h4] at this
  refine KW.enterT1 (n := 49) Tryz.func38 rfl rfl rfl ?_
  have hs := St.init w0 noS
  refine KW.seq ?_
  refine CW.region (S := noS) [(0, .l), (1, .q), (2, .q)] rfl ?_
  refine EW.box hs rfl rfl rfl rfl rfl rfl ?_
  clear hs; intro b4 w hs
  refine EW.assign rfl rfl rfl rfl rfl rfl ?_
  refine EW.assign rfl rfl rfl rfl rfl rfl ?_
  refine EW.done ?_
  refine NW.seq ?_
  refine KW.seq ?_
  refine CW.region (S := noS) [(0, .q), (1, .q), (2, .q)] rfl ?_
  refine EW.move rfl rfl rfl rfl rfl rfl ?_
  refine EW.len rfl rfl rfl rfl rfl rfl ?_
  refine EW.assign rfl rfl rfl rfl rfl rfl ?_
  refine EW.done ?_
  refine NW.seq ?_
  refine KW.seq ?_
  refine CW.region (S := noS) [(0, .q), (1, .q), (2, .q)] rfl ?_
  refine EW.move rfl rfl rfl rfl rfl rfl ?_
  refine EW.assign rfl rfl rfl rfl rfl rfl ?_
  refine EW.assign rfl rfl rfl rfl rfl rfl ?_
  refine EW.done ?_
  refine NW.seq ?_
  refine KW.seq ?_
  refine KW.block ?_
  refine KW.loop (ι := Nat × Nat) (fun i => i.2 - i.1) (fun i => [(0, .slice A xs.length c), (2, .func (.func 36) #[] #[]), (4, .pointer (some ⟨b4, 0, none⟩)), (8, .int .i64 (xs.length : Int)), (9, .int .i64 (i.1 : Int)), (10, .int .i64 (i.2 : Int))]) (fun i w => i.1 ≤ i.2 ∧ i.2 ≤ xs.length ∧ (∀ t, t < i.1 → ∀ z, xs[t]? = some z → ltLab z y = true) ∧ (∀ t, i.2 ≤ t → ∀ z, xs[t]? = some z → ltLab z y = false) ∧ St w0 noS w [pt b4 (.cells (encL y).cells 44)]) (0, xs.length) (by repeat (first | exact trivial | (refine ⟨by first | rfl | (congr 2; omega) | (simp; done) | (congr 1; simp; done), ?_⟩))) ?_ ?_
  · exact ⟨Nat.zero_le _, Nat.le_refl _, (fun t ht => absurd ht (Nat.not_lt_zero t)), (fun t ht z hz => by rw [List.getElem?_eq_none ht] at hz; cases hz), hs⟩
  clear hs
  rintro ⟨lo, hi⟩ w ⟨hlh, hhx, hlo, hhi, hs⟩
  dsimp only at hlh hhx hlo hhi hs
  refine KW.seq ?_
  refine KW.seq ?_
  refine CW.region (S := noS) [(0, .q), (1, .q), (2, .q)] rfl ?_
  refine EW.move rfl rfl rfl rfl rfl rfl ?_
  refine EW.move rfl rfl rfl rfl rfl rfl ?_
  refine EW.bin rfl rfl rfl rfl rfl rfl rfl BV.lss ?_
  refine EW.done ?_
  refine NW.seq ?_
  by_cases hlt : lo < hi
  · refine CW.cond_t rfl (by simpa using hlt) ?_
    obtain ⟨k, hk⟩ : ∃ k : Nat, k = (lo + hi) / 2 := ⟨_, rfl⟩
    have hk1 : lo ≤ k := by omega
    have hk2 : k < hi := by omega
    have hkx : k < xs.length := by omega
    have hki : ((lo : Int) + (hi : Int)) / 2 = (k : Int) := by omega
    refine KW.skip ?_
    refine NW.seq ?_
    refine KW.block ?_
    refine KW.seq ?_
    refine CW.region (S := noS) [(0, .q), (1, .q), (2, .q), (3, .q), (4, .q), (5, .q), (6, .q)] rfl ?_
    refine EW.move rfl rfl rfl rfl rfl rfl ?_
    refine EW.move rfl rfl rfl rfl rfl rfl ?_
    refine EW.bin rfl rfl rfl rfl rfl rfl rfl (BV.add (wrap_i64 (by omega) (by omega))) ?_
    refine EW.convI (b := (lo : Int) + (hi : Int)) rfl rfl rfl rfl rfl rfl (by simp [IntKind.wrap, IntKind.bits, IntKind.signed]; omega) ?_
    refine EW.bin rfl rfl rfl rfl rfl rfl rfl BV.shr1 ?_
    refine EW.convI (b := (k : Int)) rfl rfl rfl rfl rfl rfl (by rw [hki]; exact wrap_i64 (by omega) (by omega)) ?_
    refine EW.assign rfl rfl rfl rfl rfl rfl ?_
    obtain ⟨ad, rfl, _, hld⟩ := (hx.stay hs.keep).at_ hkx
    have g1 : LDP Tryz.prog w 44 (ad.add ((k : Int).toNat * 2)) (encL xs[k]) := hld k xs[k] (by simp)
    replace g1 := g1.keep (Keep.drew (S := noS) w) (fun h => h)
    refine EW.done ?_
    refine NW.seq ?_
    refine KW.seq ?_
    refine CW.regionD (noS) [(0, .q), (1, .q), (2, .q), (3, .q), (4, .q), (5, .q), (6, .l), (7, .q)] mixed (by kernel_rfl) ?_
    replace hs := hs.drew
    refine EW.move rfl rfl rfl rfl rfl rfl ?_
    refine EW.move rfl rfl rfl rfl rfl rfl ?_
    refine EW.move rfl rfl rfl rfl rfl rfl ?_
    refine EW.indexAddr rfl rfl rfl rfl rfl rfl rfl (by omega) (by omega) ?_
    refine EW.loadP rfl rfl rfl rfl rfl rfl (by first | assumption | (apply LDP.drew; assumption) | exact St.ld1 hs 0 rfl rfl | exact St.ldA hs 0 rfl rfl rfl | exact St.ld1 hs 1 rfl rfl | exact St.ldA hs 1 rfl rfl rfl | exact St.ld1 hs 2 rfl rfl | exact St.ldA hs 2 rfl rfl rfl | exact St.ld1 hs 3 rfl rfl | exact St.ldA hs 3 rfl rfl rfl | exact St.ld1 hs 4 rfl rfl | exact St.ldA hs 4 rfl rfl rfl | exact St.ld1 hs 5 rfl rfl | exact St.ldA hs 5 rfl rfl rfl | exact St.ld1 hs 6 rfl rfl | exact St.ldA hs 6 rfl rfl rfl) (by first | exact .inl rfl | exact .inr (fun h => h)) ?_
    refine EW.loadP rfl rfl rfl rfl rfl rfl (by first | assumption | (apply LDP.drew; assumption) | exact St.ld1 hs 0 rfl rfl | exact St.ldA hs 0 rfl rfl rfl | exact St.ld1 hs 1 rfl rfl | exact St.ldA hs 1 rfl rfl rfl | exact St.ld1 hs 2 rfl rfl | exact St.ldA hs 2 rfl rfl rfl | exact St.ld1 hs 3 rfl rfl | exact St.ldA hs 3 rfl rfl rfl | exact St.ld1 hs 4 rfl rfl | exact St.ldA hs 4 rfl rfl rfl | exact St.ld1 hs 5 rfl rfl | exact St.ldA hs 5 rfl rfl rfl | exact St.ld1 hs 6 rfl rfl | exact St.ldA hs 6 rfl rfl rfl) (by first | exact .inl rfl | exact .inr (fun h => h)) ?_
    refine EW.callV (order_spec _ xs[k] y (hsm _ (List.getElem_mem hkx)) hy (hg.stay hs.keep)) rfl rfl rfl rfl rfl rfl Tryz.func36 bd36 nm36 rfl ?_
    intro v30 w hk30 hp30
    subst hp30
    replace hs := hs.stay hk30
    refine EW.bin rfl rfl rfl rfl rfl rfl rfl BV.lss ?_
    refine EW.done ?_
    refine NW.seq ?_
    refine KW.cond rfl (fun h1 => ?_) (fun h1 => ?_)
    · skip
      have h1' : ltLab xs[k] y = true := by rw [lt_cmp]; simpa using h1
      refine CW.region (S := noS) [(0, .q), (1, .q), (2, .q)] rfl ?_
      refine EW.move rfl rfl rfl rfl rfl rfl ?_
      refine EW.bin rfl rfl rfl rfl rfl rfl rfl (BV.add (wrap_i64 (by omega) (by omega))) ?_
      refine EW.assign rfl rfl rfl rfl rfl rfl ?_
      refine EW.done ?_
      refine NW.blk ?_
      refine NW.again ((k + 1, hi)) (by first | assumption | (dsimp only; omega) | omega | (simp; omega)) (by repeat (first | exact trivial | (refine ⟨by first | rfl | (congr 2; omega) | (simp; done) | (congr 1; simp; done), ?_⟩))) ?_
      try dsimp only
      refine ⟨by omega, by omega, fun t ht z hz => ?_, hhi, hs⟩
      by_cases htk : t = k
      · subst htk
        rw [List.getElem?_eq_getElem hkx] at hz
        injection hz with hz; rw [← hz]; exact h1'
      · exact lt_trans (hmono t k z xs[k] (by omega) hz (by simp)) h1'
    · skip
      have h1' : ltLab xs[k] y = false := by
        have h2 : ¬ cmpLab xs[k] y < 0 := by simpa using h1
        rw [← Bool.not_eq_true, lt_cmp]; exact h2
      refine CW.region (S := noS) [(0, .q), (1, .q)] rfl ?_
      refine EW.move rfl rfl rfl rfl rfl rfl ?_
      refine EW.assign rfl rfl rfl rfl rfl rfl ?_
      refine EW.done ?_
      refine NW.blk ?_
      refine NW.again ((lo, k)) (by first | assumption | (dsimp only; omega) | omega | (simp; omega)) (by repeat (first | exact trivial | (refine ⟨by first | rfl | (congr 2; omega) | (simp; done) | (congr 1; simp; done), ?_⟩))) ?_
      try dsimp only
      refine ⟨by omega, by omega, hlo, fun t ht z hz => ?_, hs⟩
      by_cases htk : t = k
      · subst htk
        rw [List.getElem?_eq_getElem hkx] at hz
        injection hz with hz; rw [← hz]; exact h1'
      · rcases hb : ltLab z y with _ | _
        · rfl
        · have := lt_trans (hmono k t xs[k] z (by omega) (by simp) hz) hb
          rw [h1'] at this; cases this
  · refine CW.cond_f rfl (by simpa using hlt) ?_
    have e : lo = hi := by omega
    subst e
    have hsp : Spot xs y lo := ⟨hhx, hlo, hhi⟩
    have hfound : ∀ b : Bool, (b = true ↔ xs[lo]? = some y) → b = decide (y ∈ xs) := fun b hb => by
      rw [Bool.eq_iff_iff, decide_eq_true_eq, hb]
      constructor
      · intro h; exact List.mem_of_getElem? h
      · intro h
        obtain ⟨j, hj⟩ := List.mem_iff_getElem?.1 h
        have h1 : ¬ j < lo := fun hjl => by have := hlo j hjl y hj; rw [lt_irrefl] at this; cases this
        by_cases h2 : j = lo
        · rw [← h2]; exact hj
        · have hlx : lo < xs.length := by have := (List.getElem?_eq_some_iff.1 hj).1; omega
          have := hmono lo j xs[lo] y (by omega) (by simp) hj
          rw [hhi lo (Nat.le_refl _) xs[lo] (by simp)] at this; cases this
    refine KW.exit ?_
    refine XW.seq ?_
    refine XW.inv ?_
    refine XW.blk ?_
    refine NW.seq ?_
    refine KW.seq ?_
    refine CW.regionD (noS) [(0, .q), (1, .q), (2, .q), (3, .q), (4, .q), (5, .q), (6, .q), (7, .q), (8, .q), (9, .q), (10, .q), (11, .l), (12, .q), (13, .q), (14, .q), (15, .q)] mixed (by kernel_rfl) ?_
    replace hs := hs.drew
    refine EW.move rfl rfl rfl rfl rfl rfl ?_
    refine EW.move rfl rfl rfl rfl rfl rfl ?_
    refine EW.move rfl rfl rfl rfl rfl rfl ?_
    refine EW.bin rfl rfl rfl rfl rfl rfl rfl BV.lss ?_
    refine EW.move rfl rfl rfl rfl rfl rfl ?_
    refine EW.caseB (fun h2 => ?_) (fun h2 => ?_)
    · skip
      have h2' : lo < xs.length := by simpa using h2
      obtain ⟨ad, rfl, _, hld⟩ := (hx.stay hs.keep).at_ h2'
      have g1 : LDP Tryz.prog _ 44 (ad.add ((lo : Int).toNat * 2)) (encL xs[lo]) := hld lo xs[lo] (by simp)
      refine EW.move rfl rfl rfl rfl rfl rfl ?_
      refine EW.move rfl rfl rfl rfl rfl rfl ?_
      refine EW.move rfl rfl rfl rfl rfl rfl ?_
      refine EW.indexAddr rfl rfl rfl rfl rfl rfl rfl (by omega) (by omega) ?_
      refine EW.loadP rfl rfl rfl rfl rfl rfl (by first | assumption | (apply LDP.drew; assumption) | exact St.ld1 hs 0 rfl rfl | exact St.ldA hs 0 rfl rfl rfl | exact St.ld1 hs 1 rfl rfl | exact St.ldA hs 1 rfl rfl rfl | exact St.ld1 hs 2 rfl rfl | exact St.ldA hs 2 rfl rfl rfl | exact St.ld1 hs 3 rfl rfl | exact St.ldA hs 3 rfl rfl rfl | exact St.ld1 hs 4 rfl rfl | exact St.ldA hs 4 rfl rfl rfl | exact St.ld1 hs 5 rfl rfl | exact St.ldA hs 5 rfl rfl rfl | exact St.ld1 hs 6 rfl rfl | exact St.ldA hs 6 rfl rfl rfl) (by first | exact .inl rfl | exact .inr (fun h => h)) ?_
      refine EW.loadP rfl rfl rfl rfl rfl rfl (by first | assumption | (apply LDP.drew; assumption) | exact St.ld1 hs 0 rfl rfl | exact St.ldA hs 0 rfl rfl rfl | exact St.ld1 hs 1 rfl rfl | exact St.ldA hs 1 rfl rfl rfl | exact St.ld1 hs 2 rfl rfl | exact St.ldA hs 2 rfl rfl rfl | exact St.ld1 hs 3 rfl rfl | exact St.ldA hs 3 rfl rfl rfl | exact St.ld1 hs 4 rfl rfl | exact St.ldA hs 4 rfl rfl rfl | exact St.ld1 hs 5 rfl rfl | exact St.ldA hs 5 rfl rfl rfl | exact St.ld1 hs 6 rfl rfl | exact St.ldA hs 6 rfl rfl rfl) (by first | exact .inl rfl | exact .inr (fun h => h)) ?_
      refine EW.callV (order_spec _ xs[lo] y (hsm _ (List.getElem_mem h2')) hy (hg.stay hs.keep)) rfl rfl rfl rfl rfl rfl Tryz.func36 bd36 nm36 rfl ?_
      intro v46 w hk46 hp46
      subst hp46
      replace hs := hs.stay hk46
      refine EW.bin rfl rfl rfl rfl rfl rfl rfl BV.eqi ?_
      refine EW.pick rfl rfl rfl rfl rfl rfl rfl ?_
      refine EW.assign rfl rfl rfl rfl rfl rfl ?_
      refine EW.assign rfl rfl rfl rfl rfl rfl ?_
      refine EW.done ?_
      refine NW.seq ?_
      refine KW.ret2 rfl rfl rfl ?_
      refine ⟨_, rfl, hs.keep, ?_⟩
      refine ⟨lo, ?_, hsp⟩
      congr 4
      refine congrArg Value.bool (hfound _ ?_)
      rw [decide_eq_true_eq, List.getElem?_eq_getElem h2', lawLab.zero]
      exact ⟨fun h => by rw [h], fun h => by injection h⟩
    · skip
      have h2' : ¬ lo < xs.length := by simpa using h2
      refine EW.off rfl rfl rfl rfl ?_
      refine EW.off rfl rfl rfl rfl ?_
      refine EW.off rfl rfl rfl rfl ?_
      refine EW.off rfl rfl rfl rfl ?_
      refine EW.off rfl rfl rfl rfl ?_
      refine EW.off rfl rfl rfl rfl ?_
      refine EW.off rfl rfl rfl rfl ?_
      refine EW.off rfl rfl rfl rfl ?_
      refine EW.pick rfl rfl rfl rfl rfl rfl rfl ?_
      refine EW.assign rfl rfl rfl rfl rfl rfl ?_
      refine EW.assign rfl rfl rfl rfl rfl rfl ?_
      refine EW.done ?_
      refine NW.seq ?_
      refine KW.ret2 rfl rfl rfl ?_
      refine ⟨_, rfl, hs.keep, ?_⟩
      refine ⟨lo, ?_, hsp⟩
      congr 4
      refine congrArg Value.bool (hfound _ ?_)
      rw [List.getElem?_eq_none (by omega)]; simp
end Go.Cw.Tryz
set_option linter.unusedVariables false
set_option linter.unusedSimpArgs false
namespace Go.Cw
theorem cutA_at {g c i s : Nat} (h : c ≠ i) : cutA (some ⟨g, 0, none⟩) c i s = some ⟨g, i * s, none⟩ := by
  unfold cutA
  rw [if_neg h, Option.map_some, add_at, Nat.zero_add]
/-- y laid between, from below. -/
theorem put_two (cs f1 fy f2 : List Value) (k : Nat) (hk : k ≤ cs.length) (hl : f1.length + fy.length + f2.length = k) (h1 : cs.take f1.length = f1) :
    (setAt (setAt cs f1.length fy) (f1.length + fy.length) f2).take k = f1 ++ fy ++ f2 ∧ (setAt (setAt cs (f1.length + fy.length) f2) f1.length fy).take k = f1 ++ fy ++ f2 := by
  have hlk : (cs.take k).length = k := by simp; omega
  have h1k : (cs.take k).take f1.length = f1 := by rw [List.take_take, Nat.min_eq_left (by omega), h1]
  constructor
  · rw [take_setAt, take_setAt, setAt_eq fy _ _ (by omega), h1k]
    rw [setAt_eq f2 _ _ (by simp; omega)]
    rw [List.take_append_of_le_length (by simp), List.take_of_length_le (by simp), List.drop_eq_nil_of_le (by simp; omega), List.append_nil]
  · rw [take_setAt, take_setAt, setAt_eq f2 _ _ (by omega), setAt_eq fy _ _ (by simp; omega)]
    have e1 : (cs.take k).take (f1.length + fy.length) = f1 ++ ((cs.take k).drop f1.length).take fy.length := by rw [List.take_add, h1k]
    have hd : (cs.take k).drop (f1.length + fy.length + f2.length) = [] := List.drop_eq_nil_of_le (by omega)
    rw [e1, hd, List.append_nil]
    have hM : (((cs.take k).drop f1.length).take fy.length).length = fy.length := by simp; omega
    generalize ((cs.take k).drop f1.length).take fy.length = M at hM
    have hlen : (f1 ++ M).length = f1.length + fy.length := by simp [hM]
    rw [← hlen, List.drop_left, List.append_assoc f1 M f2, List.take_left]
end Go.Cw
namespace Go.Cw.Tryz
open Go.Proofs Go.Cw
attribute [local irreducible] Go.Addr.add

theorem Insert_spec (w0 : World) (v : Value) (xs : List Lab) (i : Nat) (B : Addr) (cB : Nat) (y : Lab) (csB : Array Value) (tB : TypeId) (hs : St w0 (fpU [own elL v xs]) w0 [own elL v xs]) (hi : i ≤ xs.length) (hl : xs.length ≤ 1000000) (hy : SlA elL w0 (some B) [y]) (hB : w0.heap[B.block]? = some (.cells csB tB (0, 0))) (hap : ¬ fpU [own elL v xs] B.block) :
    T3 Tryz.prog 39 [v, .int .i64 (i : Int), .slice (some B) 1 cB] w0 [own elL v xs] fun r w' H' => H' = [own elL r (xs.take i ++ y :: xs.drop i)] := by
  obtain ⟨A, c, rfl, hsl0, hxc, hcm, hA, _⟩ := own_sl (hs.res 0 rfl)
  have hyk : ∀ w, Keep (fpU [own elL (.slice A xs.length c) xs]) w0 w → SlA elL w (some B) [y] := fun w hk => hy.keep hk fun ad had => by
    injection had with had; subst had; exact hap
  have hBk : ∀ w, Keep (fpU [own elL (.slice A xs.length c) xs]) w0 w → w.heap[B.block]? = some (.cells csB tB (0, 0)) := fun w hk => (hk.block _ (Array.getElem?_eq_some_iff.1 hB).1 hap).trans hB
  have fy : flat elL [y] = (encL y).cells.toList := List.append_nil _
  have fyl : (flat elL [y]).length = 2 := by rw [flat_len]; rfl
  refine KW.enterT3 (n := 95) Tryz.func39 rfl rfl rfl ?_
  refine KW.seq ?_
  refine CW.region (S := noS) [(0, .q)] rfl ?_
  refine EW.assign rfl rfl rfl rfl rfl rfl ?_
  refine EW.done ?_
  refine NW.seq ?_
  refine KW.seq ?_
  refine CW.region (S := noS) [(0, .q), (1, .q), (2, .q)] rfl ?_
  refine EW.move rfl rfl rfl rfl rfl rfl ?_
  refine EW.move rfl rfl rfl rfl rfl rfl ?_
  refine EW.sliceSl_lo rfl rfl rfl rfl rfl rfl rfl (by omega) ?_
  refine EW.done ?_
  refine NW.seq ?_
  refine KW.seq ?_
  refine CW.region (S := noS) [(0, .q), (1, .q), (2, .q)] rfl ?_
  refine EW.move rfl rfl rfl rfl rfl rfl ?_
  refine EW.len rfl rfl rfl rfl rfl rfl ?_
  refine EW.assign rfl rfl rfl rfl rfl rfl ?_
  refine EW.done ?_
  refine NW.seq ?_
  refine KW.seq ?_
  refine KW.seq ?_
  refine CW.region (S := noS) [(0, .q), (1, .q)] rfl ?_
  refine EW.move rfl rfl rfl rfl rfl rfl ?_
  refine EW.bin rfl rfl rfl rfl rfl rfl rfl BV.eqi ?_
  refine EW.done ?_
  refine NW.seq ?_
  refine CW.cond_f rfl (rfl) ?_
  refine KW.skip ?_
  refine NW.seq ?_
  refine KW.seq ?_
  refine CW.region (S := noS) [(0, .q), (1, .q), (2, .q)] rfl ?_
  refine EW.move rfl rfl rfl rfl rfl rfl ?_
  refine EW.len rfl rfl rfl rfl rfl rfl ?_
  refine EW.assign rfl rfl rfl rfl rfl rfl ?_
  refine EW.done ?_
  refine NW.seq ?_
  refine KW.seq ?_
  refine KW.seq ?_
  refine CW.region (S := noS) [(0, .q), (1, .q), (2, .q)] rfl ?_
  refine EW.move rfl rfl rfl rfl rfl rfl ?_
  refine EW.move rfl rfl rfl rfl rfl rfl ?_
  refine EW.bin rfl rfl rfl rfl rfl rfl rfl BV.eqi ?_
  refine EW.done ?_
  refine NW.seq ?_
  by_cases hin : i = xs.length
  · refine CW.cond_t rfl (by simp [hin]) ?_
    subst hin
    refine KW.seq ?_
    refine CW.region (S := noS) [(0, .q), (1, .q), (2, .l), (3, .q)] rfl ?_
    refine EW.move rfl rfl rfl rfl rfl rfl ?_
    refine EW.move rfl rfl rfl rfl rfl rfl ?_
    refine EW.append elL 0 hs rfl (hyk _ hs.keep) (by show (xs.length + 1) * 32 ≤ 140737488355328; omega) (.inl rfl) rfl rfl rfl rfl rfl rfl rfl ?_
    clear hs; intro v25 w hs; dsimp only [List.set] at hs
    refine EW.assign rfl rfl rfl rfl rfl rfl ?_
    refine EW.done ?_
    refine NW.seq ?_
    refine KW.ret1 rfl rfl ?_
    refine ⟨_, rfl, hs.keep, ?_⟩
    refine ⟨_, hs, ?_⟩
    rw [List.take_length, List.drop_length]
  · refine CW.cond_f rfl (by simp; omega) ?_
    have hlt : i < xs.length := by omega
    obtain ⟨A, rfl⟩ : ∃ a, A = some a := by
      obtain ⟨ad, h, _⟩ := hsl0.at_ hlt
      exact ⟨ad, h⟩
    refine KW.skip ?_
    refine NW.seq ?_
    refine KW.seq ?_
    refine KW.seq ?_
    refine CW.region (S := noS) [(0, .q), (1, .q), (2, .q), (3, .q), (4, .q), (5, .q)] rfl ?_
    refine EW.move rfl rfl rfl rfl rfl rfl ?_
    refine EW.move rfl rfl rfl rfl rfl rfl ?_
    refine EW.bin rfl rfl rfl rfl rfl rfl rfl (BV.add (wrap_i64 (by omega) (by omega))) ?_
    refine EW.move rfl rfl rfl rfl rfl rfl ?_
    refine EW.cap rfl rfl rfl rfl rfl rfl ?_
    refine EW.bin rfl rfl rfl rfl rfl rfl rfl BV.gtr ?_
    refine EW.done ?_
    refine NW.seq ?_
    by_cases hgr : c < xs.length + 1
    · refine CW.cond_t rfl (by simp; omega) ?_
      have ez : (((xs.length : Int) + ((1 : Nat) : Int)) - (i : Int)) = ((xs.length + 1 - i : Nat) : Int) := by omega
      obtain ⟨g0, rfl⟩ : ∃ g0, A = ⟨g0, 0, none⟩ := by
        obtain ⟨g, cs, h, _⟩ := hs.open_ 0 rfl
        exact ⟨g, h⟩
      have hsl := hs.sl 0 rfl
      have hl1 : (flat elL (xs.take i)).length = i * 2 := by rw [flat_len, List.length_take, Nat.min_eq_left hi]; rfl
      have hl3 : (flat elL (xs.drop i)).length = (xs.length - i) * 2 := by rw [flat_len, List.length_drop]; rfl
      refine KW.seq ?_
      refine CW.region (S := noS) [(0, .q), (1, .q), (2, .q), (3, .q), (4, .q), (5, .q), (6, .q), (7, .q), (8, .l), (9, .q)] rfl ?_
      refine EW.move rfl rfl rfl rfl rfl rfl ?_
      refine EW.move rfl rfl rfl rfl rfl rfl ?_
      refine EW.sliceSl_hi rfl rfl rfl rfl rfl rfl rfl (by omega) ?_
      refine EW.move rfl rfl rfl rfl rfl rfl ?_
      refine EW.move rfl rfl rfl rfl rfl rfl ?_
      refine EW.bin rfl rfl rfl rfl rfl rfl rfl (BV.add (wrap_i64 (by omega) (by omega))) ?_
      refine EW.move rfl rfl rfl rfl rfl rfl ?_
      refine EW.bin rfl rfl rfl rfl rfl rfl rfl (BV.sub (wrap_i64 (by omega) (by omega))) ?_
      rw [ez]
      refine EW.growZeros elL hs (olds := flat elL (xs.take i)) ⟨_, (by kernel_rfl : Tryz.prog.underlying 3 = some (.int .i64))⟩ rfl rfl rfl rfl rfl rfl rfl hl1 ((hsl.take i).cell _ rfl) (by omega) (by omega) (by show (i + (xs.length + 1 - i)) * 32 ≤ 140737488355328; omega) (by simp only [maxLen]; omega) ?_
      clear hs; intro g c' cs' w hc1 hc2 hc3 hc4 hs
      have e2 : i + (xs.length + 1 - i) = xs.length + 1 := by omega
      rw [e2]
      have hcl : cs'.length = c' * 2 := hc3
      have hml : min (xs.length - i) (xs.length + 1 - (i + 1)) = xs.length - i := by omega
      refine EW.assign rfl rfl rfl rfl rfl rfl ?_
      refine EW.done ?_
      refine NW.seq ?_
      refine KW.seq ?_
      refine CW.region (S := noS) [(0, .q), (1, .q), (2, .q), (3, .q), (4, .l)] rfl ?_
      refine EW.move rfl rfl rfl rfl rfl rfl ?_
      refine EW.move rfl rfl rfl rfl rfl rfl ?_
      refine EW.sliceSl_lo rfl rfl rfl rfl rfl rfl rfl (by omega) ?_
      refine EW.move rfl rfl rfl rfl rfl rfl ?_
      rw [cutA_at (by omega)]
      refine EW.copyPt hs 0 (size := 2) (us := flat elL [y]) rfl rfl rfl rfl rfl rfl rfl rfl (by rw [fyl]; show 2 = min 1 (xs.length + 1 - i) * 2; omega) (fun ad had j u hu => (hyk _ hs.keep).cell ad had j u hu) (fun h => by cases h) (flat_one elL _) (by rw [fyl]; omega) (.inl rfl) ?_
      clear hs; intro w hs; dsimp only [List.set] at hs
      refine EW.done ?_
      refine NW.seq ?_
      refine KW.seq ?_
      refine CW.regionD (fun b => b = g) [(0, .q), (1, .q), (2, .q), (3, .q), (4, .q), (5, .q), (6, .q), (7, .q), (8, .l)] mixed (by kernel_rfl) ?_
      replace hs := hs.drew
      refine EW.move rfl rfl rfl rfl rfl rfl ?_
      refine EW.move rfl rfl rfl rfl rfl rfl ?_
      refine EW.move rfl rfl rfl rfl rfl rfl ?_
      refine EW.bin rfl rfl rfl rfl rfl rfl rfl (BV.add (wrap_i64 (by omega) (by omega))) ?_
      refine EW.sliceSl_lo (a := i + 1) rfl rfl rfl rfl rfl rfl rfl (by omega) ?_
      refine EW.move rfl rfl rfl rfl rfl rfl ?_
      refine EW.move rfl rfl rfl rfl rfl rfl ?_
      refine EW.sliceSl_lo rfl rfl rfl rfl rfl rfl rfl (by omega) ?_
      rw [cutA_at (by omega), cutA_at (by omega)]
      refine EW.copyPt hs 0 (size := 2) (us := flat elL (xs.drop i)) rfl rfl rfl rfl rfl rfl rfl rfl (by rw [hl3]; show _ = min (xs.length - i) (xs.length + 1 - (i + 1)) * 2; rw [hml]) (fun ad had j u hu => by injection had with had; subst had; have := ((hs.sl 1 rfl).drop i).cell _ rfl j u hu; rwa [add_at, Nat.zero_add] at this) (fun h => by cases h) (flat_one elL _) (by rw [hl3, setAt_len]; omega) (.inr rfl) ?_
      clear hs; intro w hs; dsimp only [List.set] at hs
      refine EW.done ?_
      refine NW.seq ?_
      refine KW.seq ?_
      refine CW.region (S := noS) [(0, .q), (1, .q)] rfl ?_
      refine EW.move rfl rfl rfl rfl rfl rfl ?_
      refine EW.assign rfl rfl rfl rfl rfl rfl ?_
      refine EW.done ?_
      refine NW.seq ?_
      have hput := (put_two cs' (flat elL (xs.take i)) (flat elL [y]) (flat elL (xs.drop i)) ((xs.length + 1) * 2) (by omega) (by rw [hl1, hl3, fyl]; omega) (by rw [hl1]; exact hc4)).1
      rw [hl1, fyl] at hput
      have e3 : i * 2 + 2 = (i + 1) * 2 := by omega
      rw [e3] at hput
      have hlx : (xs.take i ++ y :: xs.drop i).length = xs.length + 1 := by simp; omega
      have hfx : flat elL (xs.take i ++ y :: xs.drop i) = flat elL (xs.take i) ++ flat elL [y] ++ flat elL (xs.drop i) := by rw [← List.singleton_append, ← List.append_assoc, flat_append, flat_append]
      have hcl2 := hs.close_ (E := elL) 0 rfl (xs.take i ++ y :: xs.drop i) (by rw [setAt_len, setAt_len]; exact hc3) (by rw [hlx, hfx]; exact hput) (by omega) hc2
      dsimp only [List.set] at hcl2
      rw [hlx] at hcl2
      replace hs := hcl2.pick [0] (by decide)
      refine KW.ret1 rfl rfl ?_
      refine ⟨_, rfl, hs.keep, ?_⟩
      exact ⟨_, hs, rfl⟩
    · refine CW.cond_f rfl (by simp; omega) ?_
      obtain ⟨g, cs, rfl, _, hcl, hct, _, _, hs1⟩ := hs.open_ 0 rfl
      dsimp only [List.set] at hs1
      have hs := hs1
      clear hs1
      have hl1 : (flat elL (xs.take i)).length = i * 2 := by rw [flat_len, List.length_take, Nat.min_eq_left hi]; rfl
      have hl3 : (flat elL (xs.drop i)).length = (xs.length - i) * 2 := by rw [flat_len, List.length_drop]; rfl
      have hcl' : cs.length = c * 2 := hcl
      have hc4 : cs.take (i * 2) = flat elL (xs.take i) := by
        have : (cs.take (xs.length * 2)).take (i * 2) = flat elL (xs.take i) := by rw [show cs.take (xs.length * 2) = flat elL xs from hct]; exact flat_take elL xs i
        rwa [List.take_take, Nat.min_eq_left (by omega)] at this
      have hne : B.block ≠ g := fun h => hap ⟨_, List.mem_singleton.2 rfl, by rw [h]; rfl⟩
      refine KW.skip ?_
      refine NW.seq ?_
      refine KW.seq ?_
      refine CW.region (S := noS) [(0, .q), (1, .q), (2, .q), (3, .q), (4, .q), (5, .q)] rfl ?_
      refine EW.move rfl rfl rfl rfl rfl rfl ?_
      refine EW.move rfl rfl rfl rfl rfl rfl ?_
      refine EW.move rfl rfl rfl rfl rfl rfl ?_
      refine EW.bin rfl rfl rfl rfl rfl rfl rfl (BV.add (wrap_i64 (by omega) (by omega))) ?_
      refine EW.sliceSl_hi (b := xs.length + 1) rfl rfl rfl rfl rfl rfl rfl (by omega) ?_
      refine EW.assign rfl rfl rfl rfl rfl rfl ?_
      refine EW.done ?_
      refine NW.seq ?_
      refine KW.seq ?_
      refine KW.seq ?_
      refine CW.region (S := noS) [(0, .q), (1, .q), (2, .q), (3, .q), (4, .q), (5, .q), (6, .l), (7, .q)] rfl ?_
      refine EW.move rfl rfl rfl rfl rfl rfl ?_
      refine EW.move rfl rfl rfl rfl rfl rfl ?_
      refine EW.move rfl rfl rfl rfl rfl rfl ?_
      refine EW.move rfl rfl rfl rfl rfl rfl ?_
      refine EW.bin rfl rfl rfl rfl rfl rfl rfl (BV.add (wrap_i64 (by omega) (by omega))) ?_
      refine EW.sliceSl_lo (a := i + 1) rfl rfl rfl rfl rfl rfl rfl (by omega) ?_
      rw [cutA_at (by omega)]
      refine EW.overlaps (t := 30) (tr := 4) (size := 2) rfl rfl rfl rfl rfl Tryz.func50 nm50 (by kernel_rfl) (by kernel_rfl) (by kernel_rfl) rfl rfl hne (hBk _ hs.keep) (hs.res 0 rfl) (by rw [List.size_toArray]; omega) ?_
      refine EW.not rfl rfl rfl rfl rfl rfl ?_
      refine EW.done ?_
      refine NW.seq ?_
      refine CW.cond_t rfl (rfl) ?_
      have hml : min (xs.length + 1 - i) (xs.length + 1 - (i + 1)) = xs.length - i := by omega
      have hsrc : ∀ w' : World, w'.heap[g]? = some (.cells cs.toArray 44 (0, 0)) → ∀ j u, (flat elL (xs.drop i))[j]? = some u → w'.cell? ⟨g, i * 2 + j, none⟩ = some u := fun w' hw' j u hu => by
        rw [show flat elL (xs.drop i) = (flat elL xs).drop (i * 2) from (flat_drop elL xs i).symm, List.getElem?_drop] at hu
        rw [show flat elL xs = cs.take (xs.length * 2) from hct.symm, List.getElem?_take] at hu
        split at hu
        · simp only [World.cell?, hw']
          simpa using hu
        · cases hu
      refine KW.seq ?_
      refine CW.regionD (fun b => b = g) [(0, .q), (1, .q), (2, .q), (3, .q), (4, .q), (5, .q), (6, .q), (7, .q), (8, .l)] mixed (by kernel_rfl) ?_
      replace hs := hs.drew
      refine EW.move rfl rfl rfl rfl rfl rfl ?_
      refine EW.move rfl rfl rfl rfl rfl rfl ?_
      refine EW.move rfl rfl rfl rfl rfl rfl ?_
      refine EW.bin rfl rfl rfl rfl rfl rfl rfl (BV.add (wrap_i64 (by omega) (by omega))) ?_
      refine EW.sliceSl_lo (a := i + 1) rfl rfl rfl rfl rfl rfl rfl (by omega) ?_
      refine EW.move rfl rfl rfl rfl rfl rfl ?_
      refine EW.move rfl rfl rfl rfl rfl rfl ?_
      refine EW.sliceSl_lo rfl rfl rfl rfl rfl rfl rfl (by omega) ?_
      rw [cutA_at (by omega), cutA_at (by omega)]
      refine EW.copyPt hs 0 (size := 2) (us := flat elL (xs.drop i)) rfl rfl rfl rfl rfl rfl rfl rfl (by rw [hl3]; show _ = min (xs.length + 1 - i) (xs.length + 1 - (i + 1)) * 2; rw [hml]) (fun ad had j u hu => by injection had with had; subst had; rw [add_at]; exact hsrc _ (hs.res 0 rfl) j u hu) (fun h => by cases h) (flat_one elL _) (by rw [hl3]; omega) (.inr rfl) ?_
      clear hs; intro w hs; dsimp only [List.set] at hs
      refine EW.done ?_
      refine NW.seq ?_
      refine KW.seq ?_
      refine CW.region (S := noS) [(0, .q), (1, .q), (2, .q), (3, .q), (4, .l)] rfl ?_
      refine EW.move rfl rfl rfl rfl rfl rfl ?_
      refine EW.move rfl rfl rfl rfl rfl rfl ?_
      refine EW.sliceSl_lo rfl rfl rfl rfl rfl rfl rfl (by omega) ?_
      refine EW.move rfl rfl rfl rfl rfl rfl ?_
      rw [cutA_at (by omega)]
      refine EW.copyPt hs 0 (size := 2) (us := flat elL [y]) rfl rfl rfl rfl rfl rfl rfl rfl (by rw [fyl]; show 2 = min 1 (xs.length + 1 - i) * 2; omega) (fun ad had j u hu => (hyk _ hs.keep).cell ad had j u hu) (fun h => by cases h) (flat_one elL _) (by rw [fyl, setAt_len]; omega) (.inl rfl) ?_
      clear hs; intro w hs; dsimp only [List.set] at hs
      refine EW.done ?_
      refine NW.seq ?_
      refine KW.seq ?_
      refine CW.region (S := noS) [(0, .q), (1, .q)] rfl ?_
      refine EW.move rfl rfl rfl rfl rfl rfl ?_
      refine EW.assign rfl rfl rfl rfl rfl rfl ?_
      refine EW.done ?_
      refine NW.seq ?_
      have hput := (put_two cs (flat elL (xs.take i)) (flat elL [y]) (flat elL (xs.drop i)) ((xs.length + 1) * 2) (by omega) (by rw [hl1, hl3, fyl]; omega) (by rw [hl1]; exact hc4)).2
      rw [hl1, fyl] at hput
      have e3 : i * 2 + 2 = (i + 1) * 2 := by omega
      rw [e3] at hput
      have hlx : (xs.take i ++ y :: xs.drop i).length = xs.length + 1 := by simp; omega
      have hfx : flat elL (xs.take i ++ y :: xs.drop i) = flat elL (xs.take i) ++ flat elL [y] ++ flat elL (xs.drop i) := by rw [← List.singleton_append, ← List.append_assoc, flat_append, flat_append]
      have hcl2 := hs.close_ (E := elL) 0 rfl (xs.take i ++ y :: xs.drop i) (by rw [setAt_len, setAt_len]; exact hcl) (by rw [hlx, hfx]; exact hput) (by omega) hcm
      dsimp only [List.set] at hcl2
      rw [hlx] at hcl2
      refine KW.ret1 rfl rfl ?_
      refine ⟨_, rfl, hs.keep, ?_⟩
      exact ⟨_, hcl2, rfl⟩
end Go.Cw.Tryz
set_option linter.unusedVariables false
set_option linter.unusedSimpArgs false
namespace Go.Cw.Tryz
open Go.Proofs Go.Cw
attribute [local irreducible] Go.Addr.add

structure RG.Big (g : RG) (k : Nat) : Prop where
  e : g.E.length ≤ k
  em : ∀ x ∈ g.E, Cw.Sm x.1 ∧ Cw.Sm x.2
theorem RG.node_in (g : RG) (a : Lab) : a ∈ (g.node a).N := by
  unfold RG.node; split
  · assumption
  · simp
theorem RG.node_keep (g : RG) (a z : Lab) (h : z ∈ g.N) : z ∈ (g.node a).N := by
  unfold RG.node; split
  · exact h
  · simp [h]
theorem RG.edge_eq (g : RG) (a x : Lab) : g.edge a x = if (a, x) ∈ g.E then (g.node a).node x else { (g.node a).node x with E := g.E ++ [(a, x)] } := by
  have hE2 : ((g.node a).node x).E = g.E := by rw [RG.node_E, RG.node_E]
  unfold RG.edge
  dsimp only
  rw [hE2]
theorem RG.Ok.edge {g : RG} (h : g.Ok) (a x : Lab) : (g.edge a x).Ok := by
  have h2 := (h.node a).node x
  rw [RG.edge_eq]
  split
  · exact h2
  · rename_i hn
    refine ⟨h2.nodup, fun e he => ?_, List.nodup_append.2 ⟨h.enodup, by simp, fun u hu v hv huv => ?_⟩⟩
    · rcases List.mem_append.1 he with he | he
      · exact h2.wf e (by rw [RG.node_E, RG.node_E]; exact he)
      · rw [List.mem_singleton.1 he]
        exact ⟨RG.node_keep _ _ _ (RG.node_in g a), RG.node_in _ x⟩
    · rw [List.mem_singleton.1 hv] at huv; exact hn (huv ▸ hu)
theorem RG.edge_E (g : RG) (a x : Lab) (e : Edg) : e ∈ (g.edge a x).E ↔ e ∈ g.E ∨ e = (a, x) := by
  rw [RG.edge_eq]
  split
  · rename_i h
    rw [RG.node_E, RG.node_E]
    exact ⟨.inl, fun h' => h'.elim id (fun h' => h' ▸ h)⟩
  · simp
theorem RG.node_N (g : RG) (a z : Lab) : z ∈ (g.node a).N ↔ z ∈ g.N ∨ z = a := by
  unfold RG.node
  split
  · rename_i h
    exact ⟨.inl, fun h' => h'.elim id (fun h' => h' ▸ h)⟩
  · simp
theorem RG.edge_N (g : RG) (a x z : Lab) : z ∈ (g.edge a x).N ↔ z ∈ g.N ∨ z = a ∨ z = x := by
  rw [RG.edge_eq]
  have : z ∈ ((g.node a).node x).N ↔ z ∈ g.N ∨ z = a ∨ z = x := by rw [RG.node_N, RG.node_N, or_assoc]
  split
  · exact this
  · exact this
theorem Edge_spec (w0 : World) (b mb : Nat) (ps : List PE) (g : RG) (a x : Lab) (hs : St w0 (fpU (pgR b mb ps)) w0 (pgR b mb ps)) (hp : IsPG ps g) (hok : g.Ok) (hbig : g.Big 100000) (ha : Cw.Sm a) (hx : Cw.Sm x) (hg : GL w0) (hgl : ¬ fpU (pgR b mb ps) (Tryz.laySplit_ren.g 1)) :
    T3 Tryz.prog 19 [.pointer (some ⟨b, 0, none⟩), encL a, encL x] w0 (pgR b mb ps) fun v w' H' => ∃ ps', H' = pgR b mb ps' ∧ IsPG ps' (g.edge a x) := by
  refine KW.enterT3 (n := 39) Tryz.func19 rfl rfl rfl ?_
  refine KW.seq ?_
  refine CW.region (S := noS) [(0, .l), (1, .l)] rfl ?_
  refine EW.box hs rfl rfl rfl rfl rfl rfl ?_
  clear hs; intro b4 w hs
  refine EW.box hs rfl rfl rfl rfl rfl rfl ?_
  clear hs; intro b5 w hs
  replace hs := hs.pick [2, 3, 4, 1, 0] (by decide)
  simp only [pgR, List.filterMap_cons, List.filterMap_nil, List.getElem?_cons_succ, List.getElem?_cons_zero] at hs
  refine EW.done ?_
  refine NW.seq ?_
  refine KW.seq ?_
  refine CW.region (S := noS) [(0, .q), (1, .q), (2, .l)] rfl ?_
  refine EW.move rfl rfl rfl rfl rfl rfl ?_
  refine EW.loadP rfl rfl rfl rfl rfl rfl (by first | assumption | (apply LDP.drew; assumption) | exact St.ld1 hs 0 rfl rfl | exact St.ldA hs 0 rfl rfl rfl | exact St.ld1 hs 1 rfl rfl | exact St.ldA hs 1 rfl rfl rfl | exact St.ld1 hs 2 rfl rfl | exact St.ldA hs 2 rfl rfl rfl | exact St.ld1 hs 3 rfl rfl | exact St.ldA hs 3 rfl rfl rfl | exact St.ld1 hs 4 rfl rfl | exact St.ldA hs 4 rfl rfl rfl | exact St.ld1 hs 5 rfl rfl | exact St.ldA hs 5 rfl rfl rfl | exact St.ld1 hs 6 rfl rfl | exact St.ldA hs 6 rfl rfl rfl) (by first | exact .inl rfl | exact .inr (fun h => h)) ?_
  refine EW.callT3 hs 3 (Node_spec _ b mb _ _ _ (hs.sub 3) hp hok) rfl rfl rfl rfl rfl Tryz.func26 bd26 nm26 rfl (by first | exact .inl rfl | exact .inr (fun b h => h) | exact .inr (fun b h => ‹∀ b, _ → _› b h)) ?_
  clear hs; intro v11 w H'11 hs hst11 hp11
  obtain ⟨ps11, rfl, hps11⟩ := hp11
  clear hst11
  try simp only [List.cons_append, List.nil_append, List.drop_succ_cons, List.drop_zero] at hs
  simp only [pgR, List.cons_append, List.nil_append, List.drop_succ_cons, List.drop_zero] at hs
  refine EW.done ?_
  refine NW.seq ?_
  refine KW.seq ?_
  refine CW.region (S := noS) [(0, .q), (1, .q), (2, .l)] rfl ?_
  refine EW.move rfl rfl rfl rfl rfl rfl ?_
  refine EW.loadP rfl rfl rfl rfl rfl rfl (by first | assumption | (apply LDP.drew; assumption) | exact St.ld1 hs 0 rfl rfl | exact St.ldA hs 0 rfl rfl rfl | exact St.ld1 hs 1 rfl rfl | exact St.ldA hs 1 rfl rfl rfl | exact St.ld1 hs 2 rfl rfl | exact St.ldA hs 2 rfl rfl rfl | exact St.ld1 hs 3 rfl rfl | exact St.ldA hs 3 rfl rfl rfl | exact St.ld1 hs 4 rfl rfl | exact St.ldA hs 4 rfl rfl rfl | exact St.ld1 hs 5 rfl rfl | exact St.ldA hs 5 rfl rfl rfl | exact St.ld1 hs 6 rfl rfl | exact St.ldA hs 6 rfl rfl rfl) (by first | exact .inl rfl | exact .inr (fun h => h)) ?_
  refine EW.callT3 hs 3 (Node_spec _ b mb _ _ _ (hs.sub 3) hps11 (hok.node a)) rfl rfl rfl rfl rfl Tryz.func26 bd26 nm26 rfl (by first | exact .inl rfl | exact .inr (fun b h => h) | exact .inr (fun b h => ‹∀ b, _ → _› b h)) ?_
  clear hs; intro v14 w H'14 hs hst14 hp14
  obtain ⟨ps14, rfl, hps14⟩ := hp14
  clear hst14
  try simp only [List.cons_append, List.nil_append, List.drop_succ_cons, List.drop_zero] at hs
  simp only [pgR, List.cons_append, List.nil_append, List.drop_succ_cons, List.drop_zero] at hs
  have hok2 := (hok.node a).node x
  have hkeys := hps14.keys
  have hna : a ∈ ((g.node a).node x).N := RG.node_keep _ _ _ (RG.node_in g a)
  have hE2 : ((g.node a).node x).E = g.E := by rw [RG.node_E, RG.node_E]
  obtain ⟨i, p, hpi, hpa, hget⟩ : ∃ (i : Nat) (p : PE), ps14[i]? = some p ∧ p.1 = a ∧ getM (kvOf ps14) a = some (svV p.2.1) := by
    rw [← hkeys] at hna
    obtain ⟨p, hpm, hpa⟩ := List.mem_map.1 hna
    obtain ⟨i, hi⟩ := List.mem_iff_getElem?.1 hpm
    have := getM_at ps14 (by rw [hkeys]; exact hok2.nodup) hi
    exact ⟨i, p, hi, hpa, by rw [← hpa]; exact this⟩
  have hrow : p.2.2 = risingL (outOf g.E a) := by rw [← hpa, ← hE2]; exact hps14.out p (List.mem_of_getElem? hpi)
  obtain ⟨p1, ⟨A, n, c⟩, xs⟩ := p
  dsimp only at hpa hrow hget
  subst hpa
  have hri : (rwOf ps14)[i]? = some ((A, n, c), xs) := by simp [rwOf, hpi]
  obtain ⟨hsl, hn, hnc⟩ := hs.rowSl 2 rfl hri
  dsimp only at hsl hn hnc
  subst hn
  have hso : SortedL xs := by rw [hrow]; exact (rising_spec _).1
  have hmem : ∀ z, z ∈ xs ↔ (p1, z) ∈ g.E := fun z => by rw [hrow, (rising_spec _).2, outOf_mem]
  have hxl : xs.length ≤ 100000 := by
    rw [hrow]; exact Nat.le_trans (length_risingL _) (Nat.le_trans (outOf_len _ _) hbig.e)
  have hgl1 : GL w := hg.keep hs.keep hgl
  refine EW.done ?_
  refine NW.seq ?_
  refine KW.seq ?_
  refine CW.regionD (noS) [(0, .q), (1, .q), (2, .q), (3, .q), (4, .q), (5, .q), (6, .q)] mixed (by kernel_rfl) ?_
  replace hs := hs.drew
  refine EW.move rfl rfl rfl rfl rfl rfl ?_
  refine EW.nilCheck rfl rfl rfl rfl rfl rfl ?_
  first | refine EW.fieldAddr rfl rfl rfl rfl rfl rfl ?_ | refine EW.fieldAddrA rfl rfl rfl rfl rfl rfl ?_
  refine EW.loadP rfl rfl rfl rfl rfl rfl (by first | assumption | (apply LDP.drew; assumption) | exact St.ld1 hs 0 rfl rfl | exact St.ldA hs 0 rfl rfl rfl | exact St.ld1 hs 1 rfl rfl | exact St.ldA hs 1 rfl rfl rfl | exact St.ld1 hs 2 rfl rfl | exact St.ldA hs 2 rfl rfl rfl | exact St.ld1 hs 3 rfl rfl | exact St.ldA hs 3 rfl rfl rfl | exact St.ld1 hs 4 rfl rfl | exact St.ldA hs 4 rfl rfl rfl | exact St.ld1 hs 5 rfl rfl | exact St.ldA hs 5 rfl rfl rfl | exact St.ld1 hs 6 rfl rfl | exact St.ldA hs 6 rfl rfl rfl) (by first | exact .inl rfl | exact .inr (fun h => h)) ?_
  refine EW.loadP rfl rfl rfl rfl rfl rfl (by first | assumption | (apply LDP.drew; assumption) | exact St.ld1 hs 0 rfl rfl | exact St.ldA hs 0 rfl rfl rfl | exact St.ld1 hs 1 rfl rfl | exact St.ldA hs 1 rfl rfl rfl | exact St.ld1 hs 2 rfl rfl | exact St.ldA hs 2 rfl rfl rfl | exact St.ld1 hs 3 rfl rfl | exact St.ldA hs 3 rfl rfl rfl | exact St.ld1 hs 4 rfl rfl | exact St.ldA hs 4 rfl rfl rfl | exact St.ld1 hs 5 rfl rfl | exact St.ldA hs 5 rfl rfl rfl | exact St.ld1 hs 6 rfl rfl | exact St.ldA hs 6 rfl rfl rfl) (by first | exact .inl rfl | exact .inr (fun h => h)) ?_
  refine EW.lookup (K := KL) (a := p1) (hs.res 1 rfl) hz30 ht68 rfl rfl rfl rfl rfl rfl rfl (.inr (fun h => h)) ?_
  simp only [hget, Option.getD_some, Bool.false_eq_true, if_false, svV]
  refine EW.assign rfl rfl rfl rfl rfl rfl ?_
  refine EW.done ?_
  refine NW.seq ?_
  refine KW.seq ?_
  refine CW.region (S := noS) [(0, .q), (1, .q), (2, .l), (3, .q), (4, .q), (5, .q), (6, .q), (7, .q)] rfl ?_
  refine EW.move rfl rfl rfl rfl rfl rfl ?_
  refine EW.loadP rfl rfl rfl rfl rfl rfl (by first | assumption | (apply LDP.drew; assumption) | exact St.ld1 hs 0 rfl rfl | exact St.ldA hs 0 rfl rfl rfl | exact St.ld1 hs 1 rfl rfl | exact St.ldA hs 1 rfl rfl rfl | exact St.ld1 hs 2 rfl rfl | exact St.ldA hs 2 rfl rfl rfl | exact St.ld1 hs 3 rfl rfl | exact St.ldA hs 3 rfl rfl rfl | exact St.ld1 hs 4 rfl rfl | exact St.ldA hs 4 rfl rfl rfl | exact St.ld1 hs 5 rfl rfl | exact St.ldA hs 5 rfl rfl rfl | exact St.ld1 hs 6 rfl rfl | exact St.ldA hs 6 rfl rfl rfl) (by first | exact .inl rfl | exact .inr (fun h => h)) ?_
  refine EW.callT1 (Search_spec _ A c xs x ((hs.rowSl 2 rfl hri).1) hso (by omega) (fun z hz => (hbig.em _ ((hmem z).1 hz)).2) hx (hgl1.stay (Keep.drew _))) rfl rfl rfl rfl rfl Tryz.func38 bd38 nm38 rfl ?_
  intro v24 w hk24 hp24
  obtain ⟨pos, rfl, hsp⟩ := hp24
  replace hs := hs.stay hk24
  refine EW.move rfl rfl rfl rfl rfl rfl ?_
  refine EW.extract rfl rfl rfl rfl rfl rfl rfl ?_
  refine EW.extract rfl rfl rfl rfl rfl rfl rfl ?_
  refine EW.assign rfl rfl rfl rfl rfl rfl ?_
  refine EW.assign rfl rfl rfl rfl rfl rfl ?_
  refine EW.done ?_
  refine NW.seq ?_
  refine KW.seq ?_
  refine CW.region (S := noS) [(0, .q), (1, .q)] rfl ?_
  refine EW.move rfl rfl rfl rfl rfl rfl ?_
  refine EW.not rfl rfl rfl rfl rfl rfl ?_
  refine EW.done ?_
  refine NW.seq ?_
  refine KW.cond rfl (fun hc => ?_) (fun hc => ?_)
  · skip
    have hc' : x ∉ xs := by simpa using hc
    replace hs := hs.pick [2, 0, 1, 3, 4] (by decide)
    simp only [List.filterMap_cons, List.filterMap_nil, List.getElem?_cons_succ, List.getElem?_cons_zero] at hs
    replace hs := hs.rowTake hri
    dsimp only at hs
    refine CW.regionD ((own elL (svV (A, xs.length, c)) xs).fp) [(0, .q), (1, .q), (2, .q), (3, .q), (4, .q), (5, .q), (6, .q), (7, .q), (8, .l), (9, .l), (10, .b)] mixed (by kernel_rfl) ?_
    replace hs := hs.drew
    refine EW.move rfl rfl rfl rfl rfl rfl ?_
    refine EW.nilCheck rfl rfl rfl rfl rfl rfl ?_
    first | refine EW.fieldAddr rfl rfl rfl rfl rfl rfl ?_ | refine EW.fieldAddrA rfl rfl rfl rfl rfl rfl ?_
    refine EW.loadP rfl rfl rfl rfl rfl rfl (by first | assumption | (apply LDP.drew; assumption) | exact St.ld1 hs 0 rfl rfl | exact St.ldA hs 0 rfl rfl rfl | exact St.ld1 hs 1 rfl rfl | exact St.ldA hs 1 rfl rfl rfl | exact St.ld1 hs 2 rfl rfl | exact St.ldA hs 2 rfl rfl rfl | exact St.ld1 hs 3 rfl rfl | exact St.ldA hs 3 rfl rfl rfl | exact St.ld1 hs 4 rfl rfl | exact St.ldA hs 4 rfl rfl rfl | exact St.ld1 hs 5 rfl rfl | exact St.ldA hs 5 rfl rfl rfl | exact St.ld1 hs 6 rfl rfl | exact St.ldA hs 6 rfl rfl rfl) (by first | exact .inl rfl | exact .inr (fun h => h) | exact .inr (fun h => hs.apart 0 2 rfl rfl rfl _ h rfl) | exact .inr (fun h => hs.apart 0 4 rfl rfl rfl _ h rfl) | exact .inr (fun h => hs.apart 0 5 rfl rfl rfl _ h rfl)) ?_
    refine EW.loadP rfl rfl rfl rfl rfl rfl (by first | assumption | (apply LDP.drew; assumption) | exact St.ld1 hs 0 rfl rfl | exact St.ldA hs 0 rfl rfl rfl | exact St.ld1 hs 1 rfl rfl | exact St.ldA hs 1 rfl rfl rfl | exact St.ld1 hs 2 rfl rfl | exact St.ldA hs 2 rfl rfl rfl | exact St.ld1 hs 3 rfl rfl | exact St.ldA hs 3 rfl rfl rfl | exact St.ld1 hs 4 rfl rfl | exact St.ldA hs 4 rfl rfl rfl | exact St.ld1 hs 5 rfl rfl | exact St.ldA hs 5 rfl rfl rfl | exact St.ld1 hs 6 rfl rfl | exact St.ldA hs 6 rfl rfl rfl) (by first | exact .inl rfl | exact .inr (fun h => h) | exact .inr (fun h => hs.apart 0 2 rfl rfl rfl _ h rfl) | exact .inr (fun h => hs.apart 0 4 rfl rfl rfl _ h rfl) | exact .inr (fun h => hs.apart 0 5 rfl rfl rfl _ h rfl)) ?_
    refine EW.move rfl rfl rfl rfl rfl rfl ?_
    refine EW.move rfl rfl rfl rfl rfl rfl ?_
    refine EW.loadP rfl rfl rfl rfl rfl rfl (by first | assumption | (apply LDP.drew; assumption) | exact St.ld1 hs 0 rfl rfl | exact St.ldA hs 0 rfl rfl rfl | exact St.ld1 hs 1 rfl rfl | exact St.ldA hs 1 rfl rfl rfl | exact St.ld1 hs 2 rfl rfl | exact St.ldA hs 2 rfl rfl rfl | exact St.ld1 hs 3 rfl rfl | exact St.ldA hs 3 rfl rfl rfl | exact St.ld1 hs 4 rfl rfl | exact St.ldA hs 4 rfl rfl rfl | exact St.ld1 hs 5 rfl rfl | exact St.ldA hs 5 rfl rfl rfl | exact St.ld1 hs 6 rfl rfl | exact St.ldA hs 6 rfl rfl rfl) (by first | exact .inl rfl | exact .inr (fun h => h) | exact .inr (fun h => hs.apart 0 2 rfl rfl rfl _ h rfl) | exact .inr (fun h => hs.apart 0 4 rfl rfl rfl _ h rfl) | exact .inr (fun h => hs.apart 0 5 rfl rfl rfl _ h rfl)) ?_
    refine EW.lit1 elL (_) hs rfl rfl rfl rfl rfl rfl rfl ?_
    clear hs; intro b37 w hs
    replace hs := hs.pick [1, 0, 2, 3, 4, 5, 6] (by decide)
    simp only [List.filterMap_cons, List.filterMap_nil, List.getElem?_cons_succ, List.getElem?_cons_zero] at hs
    refine EW.callT3 hs 1 (Insert_spec _ _ xs pos ⟨b37, 0, none⟩ 1 x _ _ (hs.sub 1) hsp.le (by omega) (SlA.lit hs 1 rfl) (hs.res 1 rfl) (fun ⟨R, hR, hb⟩ => by simp only [List.mem_singleton] at hR; subst hR; exact hs.apart 0 1 rfl rfl rfl _ hb rfl)) rfl rfl rfl rfl rfl Tryz.func39 bd39 nm39 rfl (.inr (fun b ⟨R, hR, hb⟩ => by simp only [List.take_succ_cons, List.take_zero, List.mem_singleton] at hR; subst hR; exact hb)) ?_
    clear hs; intro v38 w H'38 hs hst38 hp38; subst hp38; clear hst38
    simp only [List.cons_append, List.nil_append, List.drop_succ_cons, List.drop_zero] at hs
    obtain ⟨A38, c38, rfl, _⟩ := own_sl (hs.res 0 rfl)
    refine EW.mapUpdateB hs 4 (K := KL) (a := p1) ht68 rfl rfl rfl rfl rfl rfl rfl rfl ?_
    clear hs; intro w hs; dsimp only [List.set] at hs
    refine EW.done ?_
    have hil : i < ps14.length := (List.getElem?_eq_some_iff.1 hpi).1
    have hnew : xs.take pos ++ x :: xs.drop pos = insL x xs := by
      rw [ins_at x xs pos hsp.le hsp.lo (fun y hy => hsp.hi pos (Nat.le_refl _) y hy), if_neg (fun h => hc' (List.mem_of_getElem? h))]
    have hnd : (ps14.map (·.1)).Nodup := by rw [hkeys]; exact hok2.nodup
    rw [hnew] at hs
    have e := setM_at ps14 hnd hpi (A38, (insL x xs).length, c38) (insL x xs)
    dsimp only [svV] at e
    rw [e] at hs
    replace hs := hs.pick [2, 0, 3, 4] (by decide)
    simp only [List.filterMap_cons, List.filterMap_nil, List.getElem?_cons_succ, List.getElem?_cons_zero] at hs
    replace hs := St.rowPut (s := (A38, (insL x xs).length, c38)) hs (by simpa [rwOf] using hil)
    refine NW.end0 rfl ?_
    refine ⟨_, rfl, hs.keep, ?_⟩
    refine ⟨pgR b mb (ps14.set i (p1, (A38, (insL x xs).length, c38), insL x xs)), ?_, _, rfl, ?_⟩
    · have := hs.pick [1, 2, 0] (by decide)
      simpa [pgR, rwOf, List.map_set] using this
    · rw [RG.edge, if_neg (by rw [hE2]; exact fun h => hc' ((hmem x).2 h))]
      refine ⟨?_, fun q hq => ?_⟩
      · rw [List.map_set]
        show (ps14.map (·.1)).set i p1 = _
        rw [← hkeys]
        apply List.ext_getElem?
        intro j
        rw [List.getElem?_set]
        by_cases hij : i = j
        · subst hij; simp [hil, hpi]
          rw [List.getElem?_eq_getElem hil] at hpi
          injection hpi with hpi; rw [hpi]
        · rw [if_neg hij]
      · show q.2.2 = risingL (outOf (((g.node p1).node x).E ++ [(p1, x)]) q.1)
        rw [hE2, outOf_snoc]
        obtain ⟨j, hj⟩ := List.mem_iff_getElem?.1 hq
        rw [List.getElem?_set] at hj
        by_cases hij : i = j
        · rw [if_pos hij, if_pos hil] at hj
          injection hj with hj; subst hj
          dsimp only
          rw [if_pos rfl, rising_snoc, ← hrow]
        · rw [if_neg hij] at hj
          have hqne : p1 ≠ q.1 := fun h => hij (by
            have h1 : (ps14.map (·.1))[i]? = some p1 := by simp [hpi]
            have h2 : (ps14.map (·.1))[j]? = some p1 := by simp [hj, h]
            exact (List.getElem?_inj (by simpa using hil) hnd).1 (h1.trans h2.symm))
          dsimp only
          rw [if_neg hqne, ← hE2]
          exact hps14.out q (List.mem_of_getElem? hj)
  · skip
    have hc' : x ∈ xs := by simpa using hc
    refine KW.skip ?_
    refine NW.end0 rfl ?_
    refine ⟨_, rfl, hs.keep, ?_⟩
    refine ⟨pgR b mb ps14, hs.pick [0, 1, 2] (by decide), _, rfl, ?_⟩
    rw [RG.edge, if_pos (by rw [hE2]; exact (hmem x).1 hc')]
    exact hps14
end Go.Cw.Tryz
set_option linter.unusedVariables false
set_option linter.unusedSimpArgs false
namespace Go.Cw.Tryz
open Go.Proofs Go.Cw
attribute [local irreducible] Go.Addr.add

/-- The program's graph, read. -/
structure PGA (w : World) (b mb : Nat) (ps : List PE) : Prop where
  blk : w.heap[b]? = some (.cells #[.map (some mb)] 70)
  mp : MapA KL w mb (kvOf ps)
  sl : ∀ p ∈ ps, SlA elL w p.2.1.1 p.2.2 ∧ p.2.1.2.1 = p.2.2.length
theorem PGA.stay {w w' : World} {b mb : Nat} {ps : List PE} (h : PGA w b mb ps) (hk : Keep noS w w') : PGA w' b mb ps :=
  ⟨(hk.block b (Array.getElem?_eq_some_iff.1 h.blk).1 (fun x => x)).trans h.blk, h.mp.keep hk (fun x => x), fun p hp => ⟨(h.sl p hp).1.stay hk, (h.sl p hp).2⟩⟩
theorem PGA.ld {w0 w : World} {b mb : Nat} {ps : List PE} (h : PGA w0 b mb ps) (hk : Keep noS w0 w) : LDP Tryz.prog w 68 ⟨b, 0, none⟩ (.map (some mb)) :=
  LDP.pt1 (h.stay hk).blk rfl
theorem PGA.of {wc w : World} {Sc : Nat → Prop} {H : List Res} {b mb : Nat} {ps : List PE} (hs : St wc Sc w H) (i j k : Nat) (hi : H[i]? = some (pt b (.cells #[.map (some mb)] 70))) (hj : H[j]? = some (mapR KL mb (kvOf ps))) (hk : H[k]? = some (rows elL (rwOf ps))) : PGA w b mb ps :=
  ⟨hs.res i hi, hs.res j hj, fun p hp => by
    obtain ⟨n, hn⟩ := List.mem_iff_getElem?.1 hp
    have := hs.rowSl k hk (i := n) (p := (p.2.1, p.2.2)) (by simp [rwOf, hn])
    exact ⟨this.1, this.2.1⟩⟩
theorem Out_spec (w0 : World) (b mb : Nat) (ps : List PE) (g : RG) (a : Lab) (hg : PGA w0 b mb ps) (hp : IsPG ps g) (hok : g.Ok) (hel : g.E.length ≤ 100000) :
    T1 Tryz.prog 16 [.pointer (some ⟨b, 0, none⟩), encL a] w0 fun v w' => Fresh elL w0 w' v (risingL (outOf g.E a)) := by
  refine KW.enterT1 (n := 12) Tryz.func16 rfl rfl rfl ?_
  have hs := St.init w0 noS
  have hgl : ∀ w, Keep noS w0 w → _ := fun w hk => hg.ld hk
  obtain ⟨A, c, hv, hsl⟩ : ∃ A c, (getM (kvOf ps) a).getD (.slice none 0 0) = .slice A (risingL (outOf g.E a)).length c ∧ SlA elL w0 A (risingL (outOf g.E a)) := by
    cases hgm : getM (kvOf ps) a with
    | none =>
      have hna := (getM_none ps a).1 hgm
      rw [hp.keys] at hna
      rw [outOf_nil hok hna]
      exact ⟨none, 0, rfl, SlA.nil elL w0 none⟩
    | some v =>
      obtain ⟨i, p, hi, hpa, rfl⟩ := getM_some ps a v hgm
      have hm := List.mem_of_getElem? hi
      have ho := hp.out p hm
      rw [hpa] at ho
      have hsl := hg.sl p hm
      rw [ho] at hsl
      exact ⟨p.2.1.1, p.2.1.2.2, by rw [Option.getD_some, svV, hsl.2], hsl.1⟩
  refine KW.seq ?_
  refine CW.region (S := noS) [(0, .l), (1, .q)] rfl ?_
  refine EW.box hs rfl rfl rfl rfl rfl rfl ?_
  clear hs; intro b3 w hs
  refine EW.assign rfl rfl rfl rfl rfl rfl ?_
  refine EW.done ?_
  refine NW.seq ?_
  refine KW.seq ?_
  refine CW.regionD (noS) [(0, .q), (1, .q), (2, .q), (3, .q), (4, .q), (5, .q), (6, .l), (7, .q)] mixed (by kernel_rfl) ?_
  replace hs := hs.drew
  refine EW.move rfl rfl rfl rfl rfl rfl ?_
  refine EW.nilCheck rfl rfl rfl rfl rfl rfl ?_
  first | refine EW.fieldAddr rfl rfl rfl rfl rfl rfl ?_ | refine EW.fieldAddrA rfl rfl rfl rfl rfl rfl ?_
  refine EW.loadP rfl rfl rfl rfl rfl rfl (by first | with_reducible exact hgl _ hs.keep | assumption | (apply LDP.drew; assumption) | exact St.ld1 hs 0 rfl rfl | exact St.ldA hs 0 rfl rfl rfl | exact St.ld1 hs 1 rfl rfl | exact St.ldA hs 1 rfl rfl rfl | exact St.ld1 hs 2 rfl rfl | exact St.ldA hs 2 rfl rfl rfl | exact St.ld1 hs 3 rfl rfl | exact St.ldA hs 3 rfl rfl rfl | exact St.ld1 hs 4 rfl rfl | exact St.ldA hs 4 rfl rfl rfl | exact St.ld1 hs 5 rfl rfl | exact St.ldA hs 5 rfl rfl rfl | exact St.ld1 hs 6 rfl rfl | exact St.ldA hs 6 rfl rfl rfl) (by first | exact .inl rfl | exact .inr (fun h => h)) ?_
  refine EW.loadP rfl rfl rfl rfl rfl rfl (by first | with_reducible exact hgl _ hs.keep | assumption | (apply LDP.drew; assumption) | exact St.ld1 hs 0 rfl rfl | exact St.ldA hs 0 rfl rfl rfl | exact St.ld1 hs 1 rfl rfl | exact St.ldA hs 1 rfl rfl rfl | exact St.ld1 hs 2 rfl rfl | exact St.ldA hs 2 rfl rfl rfl | exact St.ld1 hs 3 rfl rfl | exact St.ldA hs 3 rfl rfl rfl | exact St.ld1 hs 4 rfl rfl | exact St.ldA hs 4 rfl rfl rfl | exact St.ld1 hs 5 rfl rfl | exact St.ldA hs 5 rfl rfl rfl | exact St.ld1 hs 6 rfl rfl | exact St.ldA hs 6 rfl rfl rfl) (by first | exact .inl rfl | exact .inr (fun h => h)) ?_
  refine EW.lookup (K := KL) (a := a) ((hg.stay hs.keep).mp) hz30 ht68 rfl rfl rfl rfl rfl rfl rfl (.inr (fun h => h)) ?_
  simp only [hv, Bool.false_eq_true, if_false]
  refine EW.callT1 (CloneL_spec _ A c _ (hsl.stay hs.keep) (by have := length_risingL (outOf g.E a); have := outOf_len g.E a; omega)) rfl rfl rfl rfl rfl Tryz.func37 bd37 nm37 rfl ?_
  intro v11 w hk11 hp11
  replace hs := hs.fresh hk11 hp11
  refine EW.assign rfl rfl rfl rfl rfl rfl ?_
  refine EW.done ?_
  refine NW.seq ?_
  refine KW.ret1 rfl rfl ?_
  refine ⟨_, rfl, hs.keep, ?_⟩
  exact hs.to_fresh 0 rfl
end Go.Cw.Tryz
set_option linter.unusedVariables false
set_option linter.unusedSimpArgs false
namespace Go.Cw
theorem done_len {done : List Nat} {n : Nat} (h : done.Nodup) (hb : ∀ j ∈ done, j < n) : done.length ≤ n := by
  have := nodup_sub_len done (List.range n) h (fun j hj => List.mem_range.2 (hb j hj))
  simpa using this
end Go.Cw
namespace Go.Cw.Tryz
open Go.Proofs Go.Cw
attribute [local irreducible] Go.Addr.add

theorem KLenc : KL.enc = encL := rfl
theorem edges_le {g g' : RG} (hok : g'.Ok) (h : ∀ e ∈ g'.E, (e.2, e.1) ∈ g.E) : g'.E.length ≤ g.E.length := by
  have := nodup_sub_len (g'.E.map fun e => (e.2, e.1)) g.E (List.Pairwise.map _ (fun a b hab he => hab (by cases a; cases b; simp at he ⊢; exact ⟨he.2, he.1⟩)) hok.enodup) (fun e he => by
    obtain ⟨e', he', rfl⟩ := List.mem_map.1 he
    exact h e' he')
  simpa using this
/-- What Back has told so far. -/
structure BackInv (ps : List PE) (g : RG) (done : List Nat) (g' : RG) : Prop where
  ok : g'.Ok
  nodup : done.Nodup
  lt : ∀ j ∈ done, j < ps.length
  n : ∀ x ∈ g'.N, x ∈ g.N
  e : ∀ e ∈ g'.E, (e.2, e.1) ∈ g.E
  all : ∀ j ∈ done, ∀ p, ps[j]? = some p → p.1 ∈ g'.N ∧ ∀ y ∈ p.2.2, (y, p.1) ∈ g'.E
theorem BackInv.grow {ps : List PE} {g g' g'' : RG} {done : List Nat} (h : BackInv ps g done g') (ok : g''.Ok) (n : ∀ x ∈ g''.N, x ∈ g.N) (e : ∀ e ∈ g''.E, (e.2, e.1) ∈ g.E) (hN : ∀ x ∈ g'.N, x ∈ g''.N) (hE : ∀ e ∈ g'.E, e ∈ g''.E) : BackInv ps g done g'' :=
  ⟨ok, h.nodup, h.lt, n, e, fun j hj p hp => ⟨hN _ (h.all j hj p hp).1, fun y hy => hE _ ((h.all j hj p hp).2 y hy)⟩⟩
theorem Back_spec (w0 : World) (b mb : Nat) (ps : List PE) (g : RG) (hg : PGA w0 b mb ps) (hp : IsPG ps g) (hok : g.Ok) (hbig : g.Big 100000) (hsm : ∀ a ∈ g.N, Cw.Sm a) (hgl : GL w0) :
    T1 Tryz.prog 20 [.pointer (some ⟨b, 0, none⟩)] w0 fun v w' => ∃ ps' g', IsG w0 v w' ps' ∧ IsPG ps' g' ∧ g'.Ok ∧ (∀ a, a ∈ g'.N ↔ a ∈ g.N) ∧ (∀ x y, (x, y) ∈ g'.E ↔ (y, x) ∈ g.E) := by
  have hkey : ∀ {j : Nat} {p : PE}, ps[j]? = some p → p.1 ∈ g.N := fun hj => by
    rw [← hp.keys]; exact List.mem_map.2 ⟨_, List.mem_of_getElem? hj, rfl⟩
  have hrow : ∀ {j : Nat} {p : PE}, ps[j]? = some p → ∀ y, y ∈ p.2.2 ↔ (p.1, y) ∈ g.E := fun hj y => by
    rw [hp.out _ (List.mem_of_getElem? hj), (rising_spec _).2, outOf_mem]
  obtain ⟨es, clock, hmx0⟩ := hg.mp.x
  refine KW.enterT1 (n := 34) Tryz.func20 rfl rfl rfl ?_
  have hs := St.init w0 noS
  have hgld : ∀ w, Keep noS w0 w → _ := fun w hk => hg.ld hk
  refine KW.seq ?_
  refine CW.region (S := noS) [(0, .q)] rfl ?_
  refine EW.assign rfl rfl rfl rfl rfl rfl ?_
  refine EW.done ?_
  refine NW.seq ?_
  refine KW.seq ?_
  refine CW.region (S := noS) [(0, .l), (1, .q)] rfl ?_
  refine EW.callT1 (New_spec _) rfl rfl rfl rfl rfl Tryz.func18 bd18 nm18 rfl ?_
  intro v8 w hk8 hp8
  obtain ⟨gb, gm, rfl, hst⟩ := hp8
  replace hs := hs.plus hst
  simp only [pgR, List.cons_append, List.nil_append] at hs
  refine EW.assign rfl rfl rfl rfl rfl rfl ?_
  refine EW.done ?_
  refine NW.seq ?_
  refine KW.seq ?_
  refine KW.seq ?_
  refine CW.region (S := noS) [(0, .q), (1, .q), (2, .q), (3, .q), (4, .l)] rfl ?_
  refine EW.move rfl rfl rfl rfl rfl rfl ?_
  refine EW.nilCheck rfl rfl rfl rfl rfl rfl ?_
  first | refine EW.fieldAddr rfl rfl rfl rfl rfl rfl ?_ | refine EW.fieldAddrA rfl rfl rfl rfl rfl rfl ?_
  refine EW.loadP rfl rfl rfl rfl rfl rfl (by first | with_reducible exact hgld _ hs.keep | assumption | (apply LDP.drew; assumption) | exact St.ld1 hs 0 rfl rfl | exact St.ldA hs 0 rfl rfl rfl | exact St.ld1 hs 1 rfl rfl | exact St.ldA hs 1 rfl rfl rfl | exact St.ld1 hs 2 rfl rfl | exact St.ldA hs 2 rfl rfl rfl | exact St.ld1 hs 3 rfl rfl | exact St.ldA hs 3 rfl rfl rfl | exact St.ld1 hs 4 rfl rfl | exact St.ldA hs 4 rfl rfl rfl | exact St.ld1 hs 5 rfl rfl | exact St.ldA hs 5 rfl rfl rfl | exact St.ld1 hs 6 rfl rfl | exact St.ldA hs 6 rfl rfl rfl) (by first | exact .inl rfl | exact .inr (fun h => h)) ?_
  refine EW.range hs (hmx0.keep hs.keep (fun x => x)) ht68 rfl rfl rfl rfl rfl rfl ?_
  clear hs; intro it w hs
  refine EW.done ?_
  refine NW.seq ?_
  refine KW.block ?_
  refine KW.loop (ι := List Nat × List PE × RG) (fun i => ps.length - i.1.length) (fun i => [(3, .pointer (some ⟨gb, 0, none⟩)), (13, .pointer (some ⟨it, 0, none⟩))]) (fun i w => BackInv ps g i.1 i.2.2 ∧ IsPG i.2.1 i.2.2 ∧ St w0 noS w (pt it (.mapIter (some mb) clock (seenOf es i.1) clock) :: pgR gb gm i.2.1)) ([], [], ⟨[], []⟩) (by repeat (first | exact trivial | (refine ⟨by first | rfl | (congr 2; omega) | (simp; done) | (congr 1; simp; done), ?_⟩))) ?_ ?_
  · exact ⟨⟨⟨List.nodup_nil, (by simp), List.nodup_nil⟩, List.nodup_nil, (by simp), (by simp), (by simp), (by simp)⟩, ⟨rfl, by simp⟩, hs⟩
  clear hs
  rintro ⟨done, ps', g'⟩ w ⟨hinv, hpg', hs⟩
  dsimp only at hinv hpg' hs
  refine KW.seq ?_
  refine CW.region (S := noS) [(0, .l), (1, .q)] rfl ?_
  refine EW.next hs 0 (hmx0.keep hs.keep (fun x => x)) rfl rfl rfl rfl rfl rfl rfl (.inl rfl) (fun hall => ?_) (fun j p w hj hnd hs => ?_)
  · skip
    refine EW.extract rfl rfl rfl rfl rfl rfl rfl ?_
    refine EW.done ?_
    refine NW.seq ?_
    refine KW.seq ?_
    refine CW.cond_f rfl (rfl) ?_
    refine KW.exit ?_
    refine XW.seq ?_
    refine XW.inv ?_
    refine XW.blk ?_
    refine NW.seq ?_
    refine KW.seq ?_
    refine CW.region (S := noS) [(0, .q), (1, .q)] rfl ?_
    refine EW.move rfl rfl rfl rfl rfl rfl ?_
    refine EW.assign rfl rfl rfl rfl rfl rfl ?_
    refine EW.done ?_
    refine NW.seq ?_
    refine KW.ret1 rfl rfl ?_
    refine ⟨_, rfl, hs.keep, ?_⟩
    have hdone : ∀ {j : Nat} {p : PE}, ps[j]? = some p → j ∈ done := fun hj => hall _ (by have := (List.getElem?_eq_some_iff.1 hj).1; simpa [kvOf] using this)
    refine ⟨ps', g', ⟨gb, gm, rfl, hs.tail⟩, hpg', hinv.ok, fun a => ⟨hinv.n a, fun ha => ?_⟩, fun x y => ⟨hinv.e _, fun he => ?_⟩⟩
    · rw [← hp.keys] at ha
      obtain ⟨q, hq, rfl⟩ := List.mem_map.1 ha
      obtain ⟨n, hn⟩ := List.mem_iff_getElem?.1 hq
      exact (hinv.all n (hdone hn) q hn).1
    · have hy := (hok.wf _ he).1
      rw [← hp.keys] at hy
      obtain ⟨q, hq, hq1⟩ := List.mem_map.1 hy
      dsimp only at hq1
      subst hq1
      obtain ⟨n, hn⟩ := List.mem_iff_getElem?.1 hq
      exact (hinv.all n (hdone hn) q hn).2 x ((hrow hn x).2 he)
  · skip
    obtain ⟨q, hq, rfl⟩ : ∃ q : PE, ps[j]? = some q ∧ p = (q.1, svV q.2.1) := by
      simp only [kvOf, List.getElem?_map, Option.map_eq_some_iff] at hj
      obtain ⟨q, hq, he⟩ := hj
      exact ⟨q, hq, he.symm⟩
    obtain ⟨a, ⟨A, n, c⟩, xs⟩ := q
    obtain ⟨hsl0, hn0⟩ := hg.sl _ (List.mem_of_getElem? hq)
    dsimp only [svV] at hsl0 hn0 hj
    dsimp only [List.set] at hs
    subst hn0
    have hka := hkey hq
    have hra := hrow hq
    dsimp only at hka hra
    have hxl : xs.length ≤ 100000 := by
      have : xs = risingL (outOf g.E a) := hp.out _ (List.mem_of_getElem? hq)
      rw [this]; exact Nat.le_trans (length_risingL _) (Nat.le_trans (outOf_len _ _) hbig.e)
    refine EW.extract rfl rfl rfl rfl rfl rfl rfl ?_
    refine EW.done ?_
    refine NW.seq ?_
    refine KW.seq ?_
    refine CW.cond_t rfl (rfl) ?_
    refine KW.skip ?_
    refine NW.seq ?_
    refine KW.block ?_
    refine KW.seq ?_
    refine CW.region (S := noS) [(0, .q), (1, .q), (2, .q), (3, .l), (4, .l), (5, .q)] rfl ?_
    refine EW.entry hs 0 (hmx0.keep hs.keep (fun x => x)) hj rfl rfl rfl rfl rfl rfl rfl rfl ?_
    rw [KLenc]
    refine EW.extract rfl rfl rfl rfl rfl rfl rfl ?_
    refine EW.extract rfl rfl rfl rfl rfl rfl rfl ?_
    refine EW.alloc (z := .agg #[.string ByteArray.empty, .string ByteArray.empty]) hs rfl rfl rfl rfl rfl (by kernel_rfl) ?_
    clear hs; intro b4 w hs; dsimp only [Value.cells] at hs
    first | refine EW.store hs 0 rfl rfl rfl rfl rfl rfl rfl rfl rfl (by simp [encL, Value.oneCell', Value.cells]) rfl (.inl rfl) ?_ | refine EW.store hs 1 rfl rfl rfl rfl rfl rfl rfl rfl rfl (by simp [encL, Value.oneCell', Value.cells]) rfl (.inl rfl) ?_ | refine EW.store hs 2 rfl rfl rfl rfl rfl rfl rfl rfl rfl (by simp [encL, Value.oneCell', Value.cells]) rfl (.inl rfl) ?_ | refine EW.store hs 3 rfl rfl rfl rfl rfl rfl rfl rfl rfl (by simp [encL, Value.oneCell', Value.cells]) rfl (.inl rfl) ?_ | refine EW.store hs 4 rfl rfl rfl rfl rfl rfl rfl rfl rfl (by simp [encL, Value.oneCell', Value.cells]) rfl (.inl rfl) ?_ | refine EW.store hs 5 rfl rfl rfl rfl rfl rfl rfl rfl rfl (by simp [encL, Value.oneCell', Value.cells]) rfl (.inl rfl) ?_ | refine EW.store hs 6 rfl rfl rfl rfl rfl rfl rfl rfl rfl (by simp [encL, Value.oneCell', Value.cells]) rfl (.inl rfl) ?_
    clear hs; intro w hs; dsimp only [List.set, setAt] at hs
    replace hs := hs.pick [2, 3, 4, 0, 1] (by decide)
    simp only [pgR, List.filterMap_cons, List.filterMap_nil, List.getElem?_cons_succ, List.getElem?_cons_zero] at hs
    refine EW.assign rfl rfl rfl rfl rfl rfl ?_
    refine EW.done ?_
    refine NW.seq ?_
    refine KW.seq ?_
    refine CW.region (S := noS) [(0, .q), (1, .q), (2, .l)] rfl ?_
    refine EW.move rfl rfl rfl rfl rfl rfl ?_
    refine EW.loadP rfl rfl rfl rfl rfl rfl (by first | with_reducible exact hgld _ hs.keep | assumption | (apply LDP.drew; assumption) | exact St.ld1 hs 0 rfl rfl | exact St.ldA hs 0 rfl rfl rfl | exact St.ld1 hs 1 rfl rfl | exact St.ldA hs 1 rfl rfl rfl | exact St.ld1 hs 2 rfl rfl | exact St.ldA hs 2 rfl rfl rfl | exact St.ld1 hs 3 rfl rfl | exact St.ldA hs 3 rfl rfl rfl | exact St.ld1 hs 4 rfl rfl | exact St.ldA hs 4 rfl rfl rfl | exact St.ld1 hs 5 rfl rfl | exact St.ldA hs 5 rfl rfl rfl | exact St.ld1 hs 6 rfl rfl | exact St.ldA hs 6 rfl rfl rfl) (by first | exact .inl rfl | exact .inr (fun h => h)) ?_
    refine EW.callT3 hs 3 (Node_spec _ gb gm ps' g' a (hs.sub 3) hpg' hinv.ok) rfl rfl rfl rfl rfl Tryz.func26 bd26 nm26 rfl (by first | exact .inl rfl | exact .inr (fun b h => h) | exact .inr (fun b h => ‹∀ b, _ → _› b h)) ?_
    clear hs; intro v21 w H'21 hs hst21 hp21
    obtain ⟨ps21, rfl, hps21⟩ := hp21
    clear hst21
    simp only [pgR] at hs
    try simp only [List.cons_append, List.nil_append, List.drop_succ_cons, List.drop_zero] at hs
    refine EW.done ?_
    refine NW.seq ?_
    refine KW.seq ?_
    refine CW.region (S := noS) [(0, .q), (1, .q), (2, .q)] rfl ?_
    refine EW.move rfl rfl rfl rfl rfl rfl ?_
    refine EW.len rfl rfl rfl rfl rfl rfl ?_
    refine EW.move rfl rfl rfl rfl rfl rfl ?_
    refine EW.done ?_
    refine NW.seq ?_
    refine KW.block ?_
    have hn1 : BackInv ps g done (g'.node a) := hinv.grow (hinv.ok.node a) (fun x hx => by rcases (RG.node_N _ _ _).1 hx with h | rfl; · exact hinv.n x h
                                                                                           · exact hka) (by rw [RG.node_E]; exact hinv.e) (fun x hx => RG.node_keep _ _ _ hx) (fun e he => by rw [RG.node_E]; exact he)
    refine KW.loop (ι := Nat × List PE × RG) (fun i => xs.length - i.1) (fun i => [(3, .pointer (some ⟨gb, 0, none⟩)), (4, .pointer (some ⟨b4, 0, none⟩)), (13, .pointer (some ⟨it, 0, none⟩)), (22, .slice A xs.length c), (23, .int .i64 (xs.length : Int)), (24, .int .i64 (i.1 : Int))]) (fun i w => i.1 ≤ xs.length ∧ BackInv ps g done i.2.2 ∧ a ∈ i.2.2.N ∧ (∀ y ∈ xs.take i.1, (y, a) ∈ i.2.2.E) ∧ IsPG i.2.1 i.2.2 ∧ St w0 noS w (pgR gb gm i.2.1 ++ [pt b4 (.cells (encL a).cells 44), pt it (.mapIter (some mb) clock (seenOf es (done ++ [j])) clock)])) (0, ps21, g'.node a) (by repeat (first | exact trivial | (refine ⟨by first | rfl | (congr 2; omega) | (simp; done) | (congr 1; simp; done), ?_⟩))) ?_ ?_
    · exact ⟨Nat.zero_le _, hn1, RG.node_in _ _, (by simp), hps21, hs⟩
    clear hs
    rintro ⟨k, qs, h⟩ w ⟨hk, hi, hah, hrows, hq2, hs⟩
    dsimp only at hk hi hah hrows hq2 hs
    refine KW.seq ?_
    refine CW.region (S := noS) [(0, .q)] rfl ?_
    refine EW.bin rfl rfl rfl rfl rfl rfl rfl BV.lss ?_
    refine EW.done ?_
    refine NW.seq ?_
    refine KW.seq ?_
    by_cases hlt : k < xs.length
    · refine CW.cond_t rfl (by simpa using hlt) ?_
      simp only [pgR, List.cons_append, List.nil_append] at hs
      obtain ⟨ad, rfl, _, hld⟩ := (hsl0.stay hs.keep).at_ hlt
      have g1 : LDP Tryz.prog w 44 (ad.add ((k : Int).toNat * 2)) (encL xs[k]) := hld k xs[k] (by simp)
      have hxm : xs[k] ∈ xs := List.getElem_mem hlt
      have hxe : (a, xs[k]) ∈ g.E := (hra _).1 hxm
      refine KW.skip ?_
      refine NW.seq ?_
      refine KW.seq ?_
      refine KW.block ?_
      refine KW.seq ?_
      refine CW.region (S := noS) [(0, .q), (1, .q), (2, .l), (3, .l)] rfl ?_
      refine EW.indexAddr rfl rfl rfl rfl rfl rfl rfl (by omega) (by omega) ?_
      refine EW.loadP rfl rfl rfl rfl rfl rfl (by first | with_reducible exact hgld _ hs.keep | assumption | (apply LDP.drew; assumption) | exact St.ld1 hs 0 rfl rfl | exact St.ldA hs 0 rfl rfl rfl | exact St.ld1 hs 1 rfl rfl | exact St.ldA hs 1 rfl rfl rfl | exact St.ld1 hs 2 rfl rfl | exact St.ldA hs 2 rfl rfl rfl | exact St.ld1 hs 3 rfl rfl | exact St.ldA hs 3 rfl rfl rfl | exact St.ld1 hs 4 rfl rfl | exact St.ldA hs 4 rfl rfl rfl | exact St.ld1 hs 5 rfl rfl | exact St.ldA hs 5 rfl rfl rfl | exact St.ld1 hs 6 rfl rfl | exact St.ldA hs 6 rfl rfl rfl) (by first | exact .inl rfl | exact .inr (fun h => h)) ?_
      refine EW.alloc (z := .agg #[.string ByteArray.empty, .string ByteArray.empty]) hs rfl rfl rfl rfl rfl (by kernel_rfl) ?_
      clear hs; intro b7 w hs; dsimp only [Value.cells] at hs
      first | refine EW.store hs 0 rfl rfl rfl rfl rfl rfl rfl rfl rfl (by simp [encL, Value.oneCell', Value.cells]) rfl (.inl rfl) ?_ | refine EW.store hs 1 rfl rfl rfl rfl rfl rfl rfl rfl rfl (by simp [encL, Value.oneCell', Value.cells]) rfl (.inl rfl) ?_ | refine EW.store hs 2 rfl rfl rfl rfl rfl rfl rfl rfl rfl (by simp [encL, Value.oneCell', Value.cells]) rfl (.inl rfl) ?_ | refine EW.store hs 3 rfl rfl rfl rfl rfl rfl rfl rfl rfl (by simp [encL, Value.oneCell', Value.cells]) rfl (.inl rfl) ?_ | refine EW.store hs 4 rfl rfl rfl rfl rfl rfl rfl rfl rfl (by simp [encL, Value.oneCell', Value.cells]) rfl (.inl rfl) ?_ | refine EW.store hs 5 rfl rfl rfl rfl rfl rfl rfl rfl rfl (by simp [encL, Value.oneCell', Value.cells]) rfl (.inl rfl) ?_ | refine EW.store hs 6 rfl rfl rfl rfl rfl rfl rfl rfl rfl (by simp [encL, Value.oneCell', Value.cells]) rfl (.inl rfl) ?_
      clear hs; intro w hs; dsimp only [List.set, setAt] at hs
      replace hs := hs.pick [1, 2, 3, 0, 4, 5] (by decide)
      simp only [List.filterMap_cons, List.filterMap_nil, List.getElem?_cons_succ, List.getElem?_cons_zero] at hs
      have hnew : ¬ fpU (pgR gb gm qs) (Tryz.laySplit_ren.g 1) := fun ⟨R, hR, hb⟩ => by
        have hlt := hgl.lt
        have : w0.heap.size ≤ Tryz.laySplit_ren.g 1 := (hs.own R (by simp only [pgR] at hR; exact List.mem_append_left _ hR) _ hb).resolve_right (fun x => x)
        omega
      refine EW.done ?_
      refine NW.seq ?_
      refine CW.region (S := noS) [(0, .q), (1, .q), (2, .q), (3, .l)] rfl ?_
      refine EW.move rfl rfl rfl rfl rfl rfl ?_
      refine EW.loadP rfl rfl rfl rfl rfl rfl (by first | with_reducible exact hgld _ hs.keep | assumption | (apply LDP.drew; assumption) | exact St.ld1 hs 0 rfl rfl | exact St.ldA hs 0 rfl rfl rfl | exact St.ld1 hs 1 rfl rfl | exact St.ldA hs 1 rfl rfl rfl | exact St.ld1 hs 2 rfl rfl | exact St.ldA hs 2 rfl rfl rfl | exact St.ld1 hs 3 rfl rfl | exact St.ldA hs 3 rfl rfl rfl | exact St.ld1 hs 4 rfl rfl | exact St.ldA hs 4 rfl rfl rfl | exact St.ld1 hs 5 rfl rfl | exact St.ldA hs 5 rfl rfl rfl | exact St.ld1 hs 6 rfl rfl | exact St.ldA hs 6 rfl rfl rfl) (by first | exact .inl rfl | exact .inr (fun h => h)) ?_
      refine EW.loadP rfl rfl rfl rfl rfl rfl (by first | with_reducible exact hgld _ hs.keep | assumption | (apply LDP.drew; assumption) | exact St.ld1 hs 0 rfl rfl | exact St.ldA hs 0 rfl rfl rfl | exact St.ld1 hs 1 rfl rfl | exact St.ldA hs 1 rfl rfl rfl | exact St.ld1 hs 2 rfl rfl | exact St.ldA hs 2 rfl rfl rfl | exact St.ld1 hs 3 rfl rfl | exact St.ldA hs 3 rfl rfl rfl | exact St.ld1 hs 4 rfl rfl | exact St.ldA hs 4 rfl rfl rfl | exact St.ld1 hs 5 rfl rfl | exact St.ldA hs 5 rfl rfl rfl | exact St.ld1 hs 6 rfl rfl | exact St.ldA hs 6 rfl rfl rfl) (by first | exact .inl rfl | exact .inr (fun h => h)) ?_
      refine EW.callT3 hs 3 (Edge_spec _ gb gm qs h xs[k] a (hs.sub 3) hq2 hi.ok ⟨by have := edges_le hi.ok hi.e; have := hbig.e; omega, fun e he => by have := hbig.em _ (hi.e e he); exact ⟨this.2, this.1⟩⟩ (hbig.em _ hxe).2 (hsm a hka) (hgl.stay hs.keep) hnew) rfl rfl rfl rfl rfl Tryz.func19 bd19 nm19 rfl (by first | exact .inl rfl | exact .inr (fun b h => h) | exact .inr (fun b h => ‹∀ b, _ → _› b h)) ?_
      clear hs; intro v31 w H'31 hs hst31 hp31
      obtain ⟨ps31, rfl, hps31⟩ := hp31
      clear hst31
      simp only [pgR] at hs
      try simp only [List.cons_append, List.nil_append, List.drop_succ_cons, List.drop_zero] at hs
      refine EW.done ?_
      refine NW.blk ?_
      refine NW.seq ?_
      refine CW.region (S := noS) [(0, .q), (1, .q)] rfl ?_
      refine EW.bin rfl rfl rfl rfl rfl rfl rfl (BV.add (wrap_i64 (by omega) (by omega))) ?_
      refine EW.move rfl rfl rfl rfl rfl rfl ?_
      refine EW.done ?_
      refine NW.again ((k + 1, ps31, h.edge xs[k] a)) (by first | assumption | (dsimp only; omega) | omega | (simp; omega)) (by repeat (first | exact trivial | (refine ⟨by first | rfl | (congr 2; omega) | (simp; done) | (congr 1; simp; done), ?_⟩))) ?_
      try dsimp only
      have hE : ∀ e, e ∈ (h.edge xs[k] a).E ↔ e ∈ h.E ∨ e = (xs[k], a) := RG.edge_E h _ _
      have hN : ∀ z, z ∈ (h.edge xs[k] a).N ↔ z ∈ h.N ∨ z = xs[k] ∨ z = a := RG.edge_N h _ _
      refine ⟨hlt, hi.grow (hi.ok.edge _ _) (fun z hz => ?_) (fun e he => ?_) (fun z hz => (hN z).2 (.inl hz)) (fun e he => (hE e).2 (.inl he)), (hN a).2 (.inl hah), fun y hy => ?_, hps31, ?_⟩
      · rcases (hN z).1 hz with h1 | rfl | rfl
        · exact hi.n z h1
        · exact (hok.wf _ hxe).2
        · exact hka
      · rcases (hE e).1 he with h1 | rfl
        · exact hi.e e h1
        · exact hxe
      · rw [List.take_add_one, List.getElem?_eq_getElem hlt] at hy
        rcases List.mem_append.1 hy with h1 | h1
        · exact (hE _).2 (.inl (hrows y h1))
        · have : y = xs[k] := by simpa using h1
          exact (hE _).2 (.inr (by rw [this]))
      · exact hs.pick [0, 1, 2, 4, 5] (by decide)
    · refine CW.cond_f rfl (by simpa using hlt) ?_
      have hke : k = xs.length := by omega
      subst hke
      rw [List.take_length] at hrows
      refine KW.exit ?_
      refine XW.seq ?_
      refine XW.inv ?_
      refine XW.blk ?_
      refine NW.blk ?_
      have hnd2 : (done ++ [j]).Nodup := List.nodup_append.2 ⟨hi.nodup, by simp, fun u hu v hv huv => by rw [List.mem_singleton.1 hv] at huv; exact hnd (huv ▸ hu)⟩
      have hjl : j < ps.length := (List.getElem?_eq_some_iff.1 hq).1
      have hlt2 : ∀ u ∈ done ++ [j], u < ps.length := fun u hu => by
        rcases List.mem_append.1 hu with h1 | h1
        · exact hi.lt u h1
        · rw [List.mem_singleton.1 h1]; exact hjl
      have hdl := done_len hnd2 hlt2
      rw [List.length_append, List.length_singleton] at hdl
      refine NW.again ((done ++ [j], qs, h)) (by first | assumption | (dsimp only; omega) | omega | (simp; omega)) (by repeat (first | exact trivial | (refine ⟨by first | rfl | (congr 2; omega) | (simp; done) | (congr 1; simp; done), ?_⟩))) ?_
      try dsimp only
      refine ⟨⟨hi.ok, hnd2, hlt2, hi.n, hi.e, fun u hu p hp => ?_⟩, hq2, ?_⟩
      · rcases List.mem_append.1 hu with h1 | h1
        · exact hi.all u h1 p hp
        · rw [List.mem_singleton.1 h1, hq] at hp
          injection hp with hp; subst hp
          exact ⟨hah, hrows⟩
      · simp only [pgR, List.cons_append, List.nil_append] at hs
        exact hs.pick [4, 0, 1, 2] (by decide)
end Go.Cw.Tryz
set_option linter.unusedVariables false
set_option linter.unusedSimpArgs false
namespace Go.Cw.Tryz
open Go.Proofs Go.Cw
attribute [local irreducible] Go.Addr.add

/-- What the walk keeps: numbers, least numbers, what is open, whether; how many were met; the parts. -/
structure WS where
  num : List Int
  low : List Int
  opn : List Int
  inn : List Int
  met : Nat
  parts : List (SV × List Lab)
/-- Where it lies. -/
structure WV where
  vN : Value
  vO : Value
  vnum : Value
  vlow : Value
  vopn : Value
  vinn : Value
  vparts : Value
def wkR (b : Nat) (v : WV) (s : WS) : List Res := [pt b (.cells #[v.vN, v.vO, v.vnum, v.vlow, v.vopn, v.vinn, .int .i64 (s.met : Int), v.vparts] 62), own elI v.vnum s.num, own elI v.vlow s.low, own elI v.vopn s.opn, own elI v.vinn s.inn, own elP v.vparts (s.parts.map (·.1)), rows elL s.parts]
def WS.meet (s : WS) (n : Nat) : WS := { s with num := s.num.set n ((s.met + 1 : Nat) : Int), low := s.low.set n ((s.met + 1 : Nat) : Int), opn := s.opn ++ [(n : Int)], inn := s.inn.set n 1, met := s.met + 1 }
theorem meet_spec (w0 : World) (b : Nat) (v : WV) (s : WS) (n : Nat) (hs : St w0 (fpU (wkR b v s)) w0 (wkR b v s)) (h1 : n < s.num.length) (h2 : n < s.low.length) (h3 : n < s.inn.length) (hb1 : s.met ≤ 1000000) (hb2 : s.opn.length ≤ 1000000) :
    T3 Tryz.prog 42 [.pointer (some ⟨b, 0, none⟩), .int .i64 (n : Int)] w0 (wkR b v s) fun r w' H' => ∃ vo, H' = wkR b { v with vopn := vo } (s.meet n) := by
  refine KW.enterT3 (n := 47) Tryz.func42 rfl rfl rfl ?_
  obtain ⟨vN, vO, vnum, vlow, vopn, vinn, vparts⟩ := v
  obtain ⟨num, low, opn, inn, met, parts⟩ := s
  dsimp only at h1 h2 h3 hb1 hb2
  have hs0 : wkR b ⟨vN, vO, vnum, vlow, vopn, vinn, vparts⟩ ⟨num, low, opn, inn, met, parts⟩ = [pt b (.cells #[vN, vO, vnum, vlow, vopn, vinn, .int .i64 (met : Int), vparts] 62), own elI vnum num, own elI vlow low, own elI vopn opn, own elI vinn inn, own elP vparts (parts.map (·.1)), rows elL parts] := rfl
  rw [hs0] at hs ⊢
  obtain ⟨An, cn, rfl, hsn, _⟩ := own_sl (hs.res 1 rfl)
  obtain ⟨Al, cl, rfl, hsl, _⟩ := own_sl (hs.res 2 rfl)
  obtain ⟨Ao, co, rfl, _⟩ := own_sl (hs.res 3 rfl)
  obtain ⟨Ai, ci, rfl, hsi, _⟩ := own_sl (hs.res 4 rfl)
  obtain ⟨an, rfl, _⟩ := hsn.at_ h1
  obtain ⟨al, rfl, _⟩ := hsl.at_ h2
  obtain ⟨ai, rfl, _⟩ := hsi.at_ h3
  have hbn : b ≠ an.block := fun h => hs.apart 0 1 rfl rfl rfl b rfl (by rw [h]; rfl)
  have hbl : b ≠ al.block := fun h => hs.apart 0 2 rfl rfl rfl b rfl (by rw [h]; rfl)
  refine KW.seq ?_
  refine CW.region (S := noS) [(0, .q), (1, .q), (2, .q), (3, .q), (4, .q), (5, .q), (6, .q), (7, .l)] rfl ?_
  refine EW.move rfl rfl rfl rfl rfl rfl ?_
  refine EW.nilCheck rfl rfl rfl rfl rfl rfl ?_
  first | refine EW.fieldAddr rfl rfl rfl rfl rfl rfl ?_ | refine EW.fieldAddrA rfl rfl rfl rfl rfl rfl ?_
  refine EW.loadP rfl rfl rfl rfl rfl rfl (by first | assumption | (apply LDP.drew; assumption) | exact St.ld1 hs 0 rfl rfl | exact St.ldA hs 0 rfl rfl rfl | exact St.ld1 hs 1 rfl rfl | exact St.ldA hs 1 rfl rfl rfl | exact St.ld1 hs 2 rfl rfl | exact St.ldA hs 2 rfl rfl rfl | exact St.ld1 hs 3 rfl rfl | exact St.ldA hs 3 rfl rfl rfl | exact St.ld1 hs 4 rfl rfl | exact St.ldA hs 4 rfl rfl rfl | exact St.ld1 hs 5 rfl rfl | exact St.ldA hs 5 rfl rfl rfl | exact St.ld1 hs 6 rfl rfl | exact St.ldA hs 6 rfl rfl rfl) (by first | exact .inl rfl | exact .inr (fun h => h) | exact .inr (fun h => h.elim hbn hbl)) ?_
  refine EW.bin rfl rfl rfl rfl rfl rfl rfl (BV.add (wrap_i64 (by omega) (by omega))) ?_
  refine EW.nilCheck rfl rfl rfl rfl rfl rfl ?_
  first | refine EW.fieldAddr rfl rfl rfl rfl rfl rfl ?_ | refine EW.fieldAddrA rfl rfl rfl rfl rfl rfl ?_
  first | refine EW.store hs 0 rfl rfl rfl rfl rfl rfl rfl rfl rfl (by simp [Value.oneCell', Value.cells]) rfl (.inl rfl) ?_ | refine EW.store hs 1 rfl rfl rfl rfl rfl rfl rfl rfl rfl (by simp [Value.oneCell', Value.cells]) rfl (.inl rfl) ?_ | refine EW.store hs 2 rfl rfl rfl rfl rfl rfl rfl rfl rfl (by simp [Value.oneCell', Value.cells]) rfl (.inl rfl) ?_ | refine EW.store hs 3 rfl rfl rfl rfl rfl rfl rfl rfl rfl (by simp [Value.oneCell', Value.cells]) rfl (.inl rfl) ?_ | refine EW.store hs 4 rfl rfl rfl rfl rfl rfl rfl rfl rfl (by simp [Value.oneCell', Value.cells]) rfl (.inl rfl) ?_ | refine EW.store hs 5 rfl rfl rfl rfl rfl rfl rfl rfl rfl (by simp [Value.oneCell', Value.cells]) rfl (.inl rfl) ?_ | refine EW.store hs 6 rfl rfl rfl rfl rfl rfl rfl rfl rfl (by simp [Value.oneCell', Value.cells]) rfl (.inl rfl) ?_
  clear hs; intro w hs; dsimp only [List.set, setAt] at hs
  refine EW.done ?_
  refine NW.seq ?_
  refine KW.seq ?_
  refine CW.regionD (fun k => k = an.block ∨ k = al.block) [(0, .q), (1, .q), (2, .q), (3, .q), (4, .q), (5, .q), (6, .q), (7, .q), (8, .q), (9, .q), (10, .q), (11, .q), (12, .q), (13, .q), (14, .q), (15, .q), (16, .q), (17, .q), (18, .q), (19, .q), (20, .q), (21, .q), (22, .q), (23, .q), (24, .l), (25, .q), (26, .l), (27, .q), (28, .b)] mixed (by kernel_rfl) ?_
  replace hs := hs.drew
  refine EW.move rfl rfl rfl rfl rfl rfl ?_
  refine EW.nilCheck rfl rfl rfl rfl rfl rfl ?_
  first | refine EW.fieldAddr rfl rfl rfl rfl rfl rfl ?_ | refine EW.fieldAddrA rfl rfl rfl rfl rfl rfl ?_
  refine EW.loadP rfl rfl rfl rfl rfl rfl (by first | assumption | (apply LDP.drew; assumption) | exact St.ld1 hs 0 rfl rfl | exact St.ldA hs 0 rfl rfl rfl | exact St.ld1 hs 1 rfl rfl | exact St.ldA hs 1 rfl rfl rfl | exact St.ld1 hs 2 rfl rfl | exact St.ldA hs 2 rfl rfl rfl | exact St.ld1 hs 3 rfl rfl | exact St.ldA hs 3 rfl rfl rfl | exact St.ld1 hs 4 rfl rfl | exact St.ldA hs 4 rfl rfl rfl | exact St.ld1 hs 5 rfl rfl | exact St.ldA hs 5 rfl rfl rfl | exact St.ld1 hs 6 rfl rfl | exact St.ldA hs 6 rfl rfl rfl) (by first | exact .inl rfl | exact .inr (fun h => h) | exact .inr (fun h => h.elim hbn hbl)) ?_
  refine EW.move rfl rfl rfl rfl rfl rfl ?_
  refine EW.move rfl rfl rfl rfl rfl rfl ?_
  refine EW.nilCheck rfl rfl rfl rfl rfl rfl ?_
  first | refine EW.fieldAddr rfl rfl rfl rfl rfl rfl ?_ | refine EW.fieldAddrA rfl rfl rfl rfl rfl rfl ?_
  refine EW.loadP rfl rfl rfl rfl rfl rfl (by first | assumption | (apply LDP.drew; assumption) | exact St.ld1 hs 0 rfl rfl | exact St.ldA hs 0 rfl rfl rfl | exact St.ld1 hs 1 rfl rfl | exact St.ldA hs 1 rfl rfl rfl | exact St.ld1 hs 2 rfl rfl | exact St.ldA hs 2 rfl rfl rfl | exact St.ld1 hs 3 rfl rfl | exact St.ldA hs 3 rfl rfl rfl | exact St.ld1 hs 4 rfl rfl | exact St.ldA hs 4 rfl rfl rfl | exact St.ld1 hs 5 rfl rfl | exact St.ldA hs 5 rfl rfl rfl | exact St.ld1 hs 6 rfl rfl | exact St.ldA hs 6 rfl rfl rfl) (by first | exact .inl rfl | exact .inr (fun h => h) | exact .inr (fun h => h.elim hbn hbl)) ?_
  refine EW.move rfl rfl rfl rfl rfl rfl ?_
  refine EW.move rfl rfl rfl rfl rfl rfl ?_
  refine EW.nilCheck rfl rfl rfl rfl rfl rfl ?_
  first | refine EW.fieldAddr rfl rfl rfl rfl rfl rfl ?_ | refine EW.fieldAddrA rfl rfl rfl rfl rfl rfl ?_
  refine EW.loadP rfl rfl rfl rfl rfl rfl (by first | assumption | (apply LDP.drew; assumption) | exact St.ld1 hs 0 rfl rfl | exact St.ldA hs 0 rfl rfl rfl | exact St.ld1 hs 1 rfl rfl | exact St.ldA hs 1 rfl rfl rfl | exact St.ld1 hs 2 rfl rfl | exact St.ldA hs 2 rfl rfl rfl | exact St.ld1 hs 3 rfl rfl | exact St.ldA hs 3 rfl rfl rfl | exact St.ld1 hs 4 rfl rfl | exact St.ldA hs 4 rfl rfl rfl | exact St.ld1 hs 5 rfl rfl | exact St.ldA hs 5 rfl rfl rfl | exact St.ld1 hs 6 rfl rfl | exact St.ldA hs 6 rfl rfl rfl) (by first | exact .inl rfl | exact .inr (fun h => h) | exact .inr (fun h => h.elim hbn hbl)) ?_
  refine EW.move rfl rfl rfl rfl rfl rfl ?_
  refine EW.move rfl rfl rfl rfl rfl rfl ?_
  refine EW.nilCheck rfl rfl rfl rfl rfl rfl ?_
  first | refine EW.fieldAddr rfl rfl rfl rfl rfl rfl ?_ | refine EW.fieldAddrA rfl rfl rfl rfl rfl rfl ?_
  refine EW.loadP rfl rfl rfl rfl rfl rfl (by first | assumption | (apply LDP.drew; assumption) | exact St.ld1 hs 0 rfl rfl | exact St.ldA hs 0 rfl rfl rfl | exact St.ld1 hs 1 rfl rfl | exact St.ldA hs 1 rfl rfl rfl | exact St.ld1 hs 2 rfl rfl | exact St.ldA hs 2 rfl rfl rfl | exact St.ld1 hs 3 rfl rfl | exact St.ldA hs 3 rfl rfl rfl | exact St.ld1 hs 4 rfl rfl | exact St.ldA hs 4 rfl rfl rfl | exact St.ld1 hs 5 rfl rfl | exact St.ldA hs 5 rfl rfl rfl | exact St.ld1 hs 6 rfl rfl | exact St.ldA hs 6 rfl rfl rfl) (by first | exact .inl rfl | exact .inr (fun h => h) | exact .inr (fun h => h.elim hbn hbl)) ?_
  refine EW.move rfl rfl rfl rfl rfl rfl ?_
  refine EW.nilCheck rfl rfl rfl rfl rfl rfl ?_
  first | refine EW.fieldAddr rfl rfl rfl rfl rfl rfl ?_ | refine EW.fieldAddrA rfl rfl rfl rfl rfl rfl ?_
  refine EW.loadP rfl rfl rfl rfl rfl rfl (by first | assumption | (apply LDP.drew; assumption) | exact St.ld1 hs 0 rfl rfl | exact St.ldA hs 0 rfl rfl rfl | exact St.ld1 hs 1 rfl rfl | exact St.ldA hs 1 rfl rfl rfl | exact St.ld1 hs 2 rfl rfl | exact St.ldA hs 2 rfl rfl rfl | exact St.ld1 hs 3 rfl rfl | exact St.ldA hs 3 rfl rfl rfl | exact St.ld1 hs 4 rfl rfl | exact St.ldA hs 4 rfl rfl rfl | exact St.ld1 hs 5 rfl rfl | exact St.ldA hs 5 rfl rfl rfl | exact St.ld1 hs 6 rfl rfl | exact St.ldA hs 6 rfl rfl rfl) (by first | exact .inl rfl | exact .inr (fun h => h) | exact .inr (fun h => h.elim hbn hbl)) ?_
  refine EW.indexAddr rfl rfl rfl rfl rfl rfl rfl (by omega) (by omega) ?_
  refine EW.storeEl elI hs 1 h1 rfl rfl rfl rfl rfl rfl rfl (.inr (.inl rfl)) ?_
  clear hs; intro w hs; dsimp only [List.set] at hs
  refine EW.indexAddr rfl rfl rfl rfl rfl rfl rfl (by omega) (by omega) ?_
  refine EW.storeEl elI hs 2 h2 rfl rfl rfl rfl rfl rfl rfl (.inr (.inr rfl)) ?_
  clear hs; intro w hs; dsimp only [List.set] at hs
  refine EW.indexAddr rfl rfl rfl rfl rfl rfl rfl (by omega) (by omega) ?_
  refine EW.storeElB elI hs 4 h3 rfl rfl rfl rfl rfl rfl rfl ?_
  clear hs; intro w hs; dsimp only [List.set] at hs
  refine EW.done ?_
  refine NW.seq ?_
  refine CW.region (S := noS) [(0, .q), (1, .q), (2, .q), (3, .q), (4, .q), (5, .q), (6, .l), (7, .l), (8, .q), (9, .q), (10, .l)] rfl ?_
  refine EW.move rfl rfl rfl rfl rfl rfl ?_
  refine EW.move rfl rfl rfl rfl rfl rfl ?_
  refine EW.nilCheck rfl rfl rfl rfl rfl rfl ?_
  first | refine EW.fieldAddr rfl rfl rfl rfl rfl rfl ?_ | refine EW.fieldAddrA rfl rfl rfl rfl rfl rfl ?_
  refine EW.loadP rfl rfl rfl rfl rfl rfl (by first | assumption | (apply LDP.drew; assumption) | exact St.ld1 hs 0 rfl rfl | exact St.ldA hs 0 rfl rfl rfl | exact St.ld1 hs 1 rfl rfl | exact St.ldA hs 1 rfl rfl rfl | exact St.ld1 hs 2 rfl rfl | exact St.ldA hs 2 rfl rfl rfl | exact St.ld1 hs 3 rfl rfl | exact St.ldA hs 3 rfl rfl rfl | exact St.ld1 hs 4 rfl rfl | exact St.ldA hs 4 rfl rfl rfl | exact St.ld1 hs 5 rfl rfl | exact St.ldA hs 5 rfl rfl rfl | exact St.ld1 hs 6 rfl rfl | exact St.ldA hs 6 rfl rfl rfl) (by first | exact .inl rfl | exact .inr (fun h => h) | exact .inr (fun h => h.elim hbn hbl)) ?_
  refine EW.move rfl rfl rfl rfl rfl rfl ?_
  refine EW.lit1 elI (_) hs rfl rfl rfl rfl rfl rfl rfl ?_
  clear hs; intro b43 w hs
  refine EW.append1 elI 4 0 hs rfl rfl (by show (opn.length + 1) * 8 ≤ 140737488355328; omega) (.inl rfl) rfl rfl rfl rfl rfl rfl rfl ?_
  clear hs; intro v44 w hs; dsimp only [List.set] at hs; replace hs := hs.tail
  obtain ⟨A44, c44, rfl, _⟩ := own_sl (hs.res 3 rfl)
  refine EW.nilCheck rfl rfl rfl rfl rfl rfl ?_
  first | refine EW.fieldAddr rfl rfl rfl rfl rfl rfl ?_ | refine EW.fieldAddrA rfl rfl rfl rfl rfl rfl ?_
  first | refine EW.store hs 0 rfl rfl rfl rfl rfl rfl rfl rfl rfl (by simp [Value.oneCell', Value.cells]) rfl (.inl rfl) ?_ | refine EW.store hs 1 rfl rfl rfl rfl rfl rfl rfl rfl rfl (by simp [Value.oneCell', Value.cells]) rfl (.inl rfl) ?_ | refine EW.store hs 2 rfl rfl rfl rfl rfl rfl rfl rfl rfl (by simp [Value.oneCell', Value.cells]) rfl (.inl rfl) ?_ | refine EW.store hs 3 rfl rfl rfl rfl rfl rfl rfl rfl rfl (by simp [Value.oneCell', Value.cells]) rfl (.inl rfl) ?_ | refine EW.store hs 4 rfl rfl rfl rfl rfl rfl rfl rfl rfl (by simp [Value.oneCell', Value.cells]) rfl (.inl rfl) ?_ | refine EW.store hs 5 rfl rfl rfl rfl rfl rfl rfl rfl rfl (by simp [Value.oneCell', Value.cells]) rfl (.inl rfl) ?_ | refine EW.store hs 6 rfl rfl rfl rfl rfl rfl rfl rfl rfl (by simp [Value.oneCell', Value.cells]) rfl (.inl rfl) ?_
  clear hs; intro w hs; dsimp only [List.set, setAt] at hs
  refine EW.done ?_
  have em : ((met : Int) + 1) = ((met + 1 : Nat) : Int) := by omega
  rw [em] at hs
  refine NW.end0 rfl ?_
  refine ⟨_, rfl, hs.keep, ?_⟩
  exact ⟨_, hs, _, rfl⟩
end Go.Cw.Tryz
set_option linter.unusedVariables false
set_option linter.unusedSimpArgs false
namespace Go.Cw.Tryz
open Go.Proofs Go.Cw Go.Shelf
attribute [local irreducible] Go.Addr.add

def upI (xs : List Int) : List Int := xs.mergeSort fun x y => decide (x ≤ y)
theorem SortI_spec (w0 : World) (v : Value) (xs : List Int) (hs : St w0 (fpU [own elI v xs]) w0 [own elI v xs]) (hne : xs ≠ []) (hl : xs.length ≤ 1000000) :
    T3 Tryz.prog 55 [v] w0 [own elI v xs] fun r w' H' => H' = [own elI v (upI xs)] := by
  obtain ⟨A, c, rfl, hsl, _, _, hA, _⟩ := own_sl (hs.res 0 rfl)
  obtain ⟨⟨g, off, sp⟩, rfl, hlt, _⟩ := hsl.at_ (i := 0) (List.length_pos_iff.2 hne)
  obtain ⟨_, h1, h2⟩ := hA _ rfl
  dsimp only at h1 h2 hlt
  subst h1 h2
  have hown := hs.res 0 rfl
  have hid : xs.map id = xs := by simp
  have hown' : (own elI (.slice (some ⟨g, 0, none⟩) xs.length c) (xs.map id)).holds w0 := by rw [hid]; exact hown
  have hH := holds_own elI id (fun x => .int .i64 x) (fun _ => rfl) rfl hown'
  refine Calls.mono (Any.slices_Sort_int Tryz.laySortI g 0 c xs w0 hH hlt (by omega)) fun e w' ⟨he, n, os, hw⟩ => ?_
  subst he hw
  have hln : (xs.mergeSort fun x y => decide (x ≤ y)).length = xs.length := List.length_mergeSort _
  obtain ⟨hk, ho⟩ := own_sorted elI id (fun x => .int .i64 x) (fun _ => rfl) rfl (m := n) (os := os) (ys := xs.mergeSort fun x y => decide (x ≤ y)) hown' hln
  rw [hid] at hk
  have hid2 : ∀ l : List Int, l.map id = l := fun l => by simp
  rw [hid2] at ho
  have hst := hs.turn 0 rfl hk ho (fun b hb => .inl hb)
  exact ⟨_, rfl, hst.keep, [own elI (.slice (some ⟨g, 0, none⟩) xs.length c) (upI xs)], hst, rfl⟩
end Go.Cw.Tryz
set_option linter.unusedVariables false
set_option linter.unusedSimpArgs false
namespace Go.Cw
def sortN (l : List Nat) : List Nat := l.mergeSort fun x y => decide (x ≤ y)
def zeroAt (inn : List Int) (q : List Nat) : List Int := q.foldl (fun l p => l.set p 0) inn
def labsAt (nodes : List Lab) (q : List Nat) : List Lab := q.filterMap fun p => nodes[p]?
theorem zeroAt_len (q : List Nat) : ∀ inn : List Int, (zeroAt inn q).length = inn.length := by
  induction q with
  | nil => intro inn; rfl
  | cons p r ih => intro inn; rw [zeroAt, List.foldl_cons]; exact (ih _).trans (by simp)
end Go.Cw
namespace Go.Cw.Tryz
open Go.Proofs Go.Cw Go.Shelf
attribute [local irreducible] Go.Addr.add
theorem upI_nat (l : List Nat) : upI (l.map fun (n : Nat) => (n : Int)) = (sortN l).map fun (n : Nat) => (n : Int) := by
  unfold upI sortN
  exact (List.map_mergeSort (fun a _ b _ => by simp)).symm
def ints (l : List Nat) : List Int := l.map fun (n : Nat) => (n : Int)
def WS.close (s : WS) (nodes : List Lab) (pre suf : List Nat) (sv : SV) : WS := { s with opn := ints pre, inn := zeroAt s.inn (sortN suf), parts := s.parts ++ [(sv, labsAt nodes (sortN suf))] }
theorem close_spec (w0 : World) (b : Nat) (v : WV) (s : WS) (n : Nat) (pre suf : List Nat) (nodes : List Lab) (An : Option Addr) (cn : Nat) (hs : St w0 (fpU (wkR b v s)) w0 (wkR b v s)) (hvN : v.vN = .slice An nodes.length cn) (hN : SlA elL w0 An nodes) (hap : ∀ ad, An = some ad → ¬ fpU (wkR b v s) ad.block)
    (hop : s.opn = ints (pre ++ n :: suf)) (hn : n ∉ pre) (hlt : ∀ p ∈ n :: suf, p < nodes.length) (hin : s.inn.length = nodes.length) (hl1 : (pre ++ n :: suf).length ≤ 100000) (hl2 : s.parts.length ≤ 100000) :
    T3 Tryz.prog 43 [.pointer (some ⟨b, 0, none⟩), .int .i64 (n : Int)] w0 (wkR b v s) fun r w' H' => ∃ vo vp sv, H' = wkR b { v with vopn := vo, vparts := vp } (s.close nodes pre (n :: suf) sv) := by
  refine KW.enterT3 (n := 66) Tryz.func43 rfl rfl rfl ?_
  obtain ⟨vN, vO, vnum, vlow, vopn, vinn, vparts⟩ := v
  obtain ⟨num, low, opn, inn, met, parts⟩ := s
  dsimp only at hvN hop hin hl2
  have hs0 : wkR b ⟨vN, vO, vnum, vlow, vopn, vinn, vparts⟩ ⟨num, low, opn, inn, met, parts⟩ = [pt b (.cells #[vN, vO, vnum, vlow, vopn, vinn, .int .i64 (met : Int), vparts] 62), own elI vnum num, own elI vlow low, own elI vopn opn, own elI vinn inn, own elP vparts (parts.map (·.1)), rows elL parts] := rfl
  rw [hs0] at hs hap ⊢
  have hNk : ∀ w, Keep (fpU [pt b (.cells #[vN, vO, vnum, vlow, vopn, vinn, .int .i64 (met : Int), vparts] 62), own elI vnum num, own elI vlow low, own elI vopn opn, own elI vinn inn, own elP vparts (parts.map (·.1)), rows elL parts]) w0 w → SlA elL w An nodes := fun w hk => hN.keep hk hap
  subst hvN hop
  have hop : (ints (pre ++ n :: suf)).length = pre.length + (suf.length + 1) := by simp [ints]
  have hll : pre.length + (suf.length + 1) ≤ 100000 := by simpa using hl1
  obtain ⟨Ao, co, rfl, hso, hoc, _⟩ := own_sl (hs.res 3 rfl)
  obtain ⟨Ai, ci, rfl, hsi, _⟩ := own_sl (hs.res 4 rfl)
  obtain ⟨Ap, cp, rfl, _⟩ := own_sl (hs.res 5 rfl)
  refine KW.seq ?_
  refine CW.region (S := noS) [(0, .q), (1, .q), (2, .q), (3, .q), (4, .q), (5, .l), (6, .q)] rfl ?_
  refine EW.move rfl rfl rfl rfl rfl rfl ?_
  refine EW.nilCheck rfl rfl rfl rfl rfl rfl ?_
  first | refine EW.fieldAddr rfl rfl rfl rfl rfl rfl ?_ | refine EW.fieldAddrA rfl rfl rfl rfl rfl rfl ?_
  refine EW.loadP rfl rfl rfl rfl rfl rfl (by first | assumption | (apply LDP.drew; assumption) | exact St.ld1 hs 0 rfl rfl | exact St.ldA hs 0 rfl rfl rfl | exact St.ld1 hs 1 rfl rfl | exact St.ldA hs 1 rfl rfl rfl | exact St.ld1 hs 2 rfl rfl | exact St.ldA hs 2 rfl rfl rfl | exact St.ld1 hs 3 rfl rfl | exact St.ldA hs 3 rfl rfl rfl | exact St.ld1 hs 4 rfl rfl | exact St.ldA hs 4 rfl rfl rfl | exact St.ld1 hs 5 rfl rfl | exact St.ldA hs 5 rfl rfl rfl | exact St.ld1 hs 6 rfl rfl | exact St.ldA hs 6 rfl rfl rfl) (by first | exact .inl rfl | exact .inr (fun h => h)) ?_
  refine EW.move rfl rfl rfl rfl rfl rfl ?_
  refine EW.callT1 (IndexI_spec _ Ao co (ints (pre ++ n :: suf)) (n : Int) (hs.sl 3 rfl) (by omega)) rfl rfl rfl rfl rfl Tryz.func53 bd53 nm53 rfl ?_
  intro v14 w hk14 hp14
  obtain ⟨r, rfl, hr⟩ := hp14
  replace hs := hs.stay hk14
  have hrn : r = (pre.length : Int) := by
    have hat : (ints (pre ++ n :: suf))[pre.length]? = some (n : Int) := by simp [ints]
    rcases hr with ⟨j, hj, hno, rfl⟩ | ⟨hno, _⟩
    · have h1 : ¬ pre.length < j := fun h => hno _ h hat
      have h2 : ¬ j < pre.length := fun h => by
        simp only [ints, List.getElem?_map, List.getElem?_append_left h, Option.map_eq_some_iff] at hj
        obtain ⟨m, hm, he⟩ := hj
        have : m = n := by omega
        subst this
        exact hn (List.mem_of_getElem? hm)
      omega
    · exact absurd (List.mem_of_getElem? hat) hno
  subst hrn
  have hdrop : (ints (pre ++ n :: suf)).drop pre.length = ints (n :: suf) := by simp [ints]
  refine EW.assign rfl rfl rfl rfl rfl rfl ?_
  refine EW.done ?_
  refine NW.seq ?_
  refine KW.seq ?_
  refine CW.region (S := noS) [(0, .q), (1, .q), (2, .q), (3, .q), (4, .q), (5, .q), (6, .l), (7, .q)] rfl ?_
  refine EW.move rfl rfl rfl rfl rfl rfl ?_
  refine EW.nilCheck rfl rfl rfl rfl rfl rfl ?_
  first | refine EW.fieldAddr rfl rfl rfl rfl rfl rfl ?_ | refine EW.fieldAddrA rfl rfl rfl rfl rfl rfl ?_
  refine EW.loadP rfl rfl rfl rfl rfl rfl (by first | assumption | (apply LDP.drew; assumption) | exact St.ld1 hs 0 rfl rfl | exact St.ldA hs 0 rfl rfl rfl | exact St.ld1 hs 1 rfl rfl | exact St.ldA hs 1 rfl rfl rfl | exact St.ld1 hs 2 rfl rfl | exact St.ldA hs 2 rfl rfl rfl | exact St.ld1 hs 3 rfl rfl | exact St.ldA hs 3 rfl rfl rfl | exact St.ld1 hs 4 rfl rfl | exact St.ldA hs 4 rfl rfl rfl | exact St.ld1 hs 5 rfl rfl | exact St.ldA hs 5 rfl rfl rfl | exact St.ld1 hs 6 rfl rfl | exact St.ldA hs 6 rfl rfl rfl) (by first | exact .inl rfl | exact .inr (fun h => h)) ?_
  refine EW.move rfl rfl rfl rfl rfl rfl ?_
  refine EW.sliceSl_lo rfl rfl rfl rfl rfl rfl rfl (by omega) ?_
  refine EW.callT1 ((by have h := CloneI_spec _ (cutA Ao co pre.length 1) (co - pre.length) _ ((hs.sl 3 rfl).cut (lo := pre.length) hoc) (by rw [List.length_drop]; omega); rw [List.length_drop] at h; exact h)) rfl rfl rfl rfl rfl Tryz.func54 bd54 nm54 rfl ?_
  intro v21 w hk21 hp21
  rw [hdrop] at hp21
  replace hs := hs.fresh hk21 hp21
  obtain ⟨A21, c21, rfl, _⟩ := own_sl (hs.res 0 rfl)
  refine EW.assign rfl rfl rfl rfl rfl rfl ?_
  refine EW.done ?_
  refine NW.seq ?_
  refine KW.seq ?_
  refine CW.region (S := noS) [(0, .q), (1, .q), (2, .q), (3, .q), (4, .q), (5, .q), (6, .q), (7, .q), (8, .q), (9, .l)] rfl ?_
  refine EW.move rfl rfl rfl rfl rfl rfl ?_
  refine EW.move rfl rfl rfl rfl rfl rfl ?_
  refine EW.nilCheck rfl rfl rfl rfl rfl rfl ?_
  first | refine EW.fieldAddr rfl rfl rfl rfl rfl rfl ?_ | refine EW.fieldAddrA rfl rfl rfl rfl rfl rfl ?_
  refine EW.loadP rfl rfl rfl rfl rfl rfl (by first | assumption | (apply LDP.drew; assumption) | exact St.ld1 hs 0 rfl rfl | exact St.ldA hs 0 rfl rfl rfl | exact St.ld1 hs 1 rfl rfl | exact St.ldA hs 1 rfl rfl rfl | exact St.ld1 hs 2 rfl rfl | exact St.ldA hs 2 rfl rfl rfl | exact St.ld1 hs 3 rfl rfl | exact St.ldA hs 3 rfl rfl rfl | exact St.ld1 hs 4 rfl rfl | exact St.ldA hs 4 rfl rfl rfl | exact St.ld1 hs 5 rfl rfl | exact St.ldA hs 5 rfl rfl rfl | exact St.ld1 hs 6 rfl rfl | exact St.ldA hs 6 rfl rfl rfl) (by first | exact .inl rfl | exact .inr (fun h => h)) ?_
  refine EW.move rfl rfl rfl rfl rfl rfl ?_
  refine EW.sliceSl_hi rfl rfl rfl rfl rfl rfl rfl (by omega) ?_
  refine EW.nilCheck rfl rfl rfl rfl rfl rfl ?_
  first | refine EW.fieldAddr rfl rfl rfl rfl rfl rfl ?_ | refine EW.fieldAddrA rfl rfl rfl rfl rfl rfl ?_
  first | refine EW.store hs 0 rfl rfl rfl rfl rfl rfl rfl rfl rfl (by simp [Value.oneCell', Value.cells]) rfl (.inl rfl) ?_ | refine EW.store hs 1 rfl rfl rfl rfl rfl rfl rfl rfl rfl (by simp [Value.oneCell', Value.cells]) rfl (.inl rfl) ?_ | refine EW.store hs 2 rfl rfl rfl rfl rfl rfl rfl rfl rfl (by simp [Value.oneCell', Value.cells]) rfl (.inl rfl) ?_ | refine EW.store hs 3 rfl rfl rfl rfl rfl rfl rfl rfl rfl (by simp [Value.oneCell', Value.cells]) rfl (.inl rfl) ?_ | refine EW.store hs 4 rfl rfl rfl rfl rfl rfl rfl rfl rfl (by simp [Value.oneCell', Value.cells]) rfl (.inl rfl) ?_ | refine EW.store hs 5 rfl rfl rfl rfl rfl rfl rfl rfl rfl (by simp [Value.oneCell', Value.cells]) rfl (.inl rfl) ?_ | refine EW.store hs 6 rfl rfl rfl rfl rfl rfl rfl rfl rfl (by simp [Value.oneCell', Value.cells]) rfl (.inl rfl) ?_
  clear hs; intro w hs; dsimp only [List.set, setAt] at hs
  have hshr := own_shrink (hs.res 4 rfl) pre.length (by omega)
  rw [show (ints (pre ++ n :: suf)).take pre.length = ints pre from by simp [ints]] at hshr
  replace hs := hs.conv 4 rfl hshr (fun b hb => by
    cases Ao with
    | none => cases hb
    | some ad => exact hb)
  dsimp only [List.set] at hs
  have hqm : ∀ p, p ∈ sortN (n :: suf) ↔ p ∈ n :: suf := fun p => (List.mergeSort_perm _ _).mem_iff
  have hql : (sortN (n :: suf)).length = suf.length + 1 := by rw [sortN, List.length_mergeSort]; rfl
  refine EW.done ?_
  refine NW.seq ?_
  refine KW.seq ?_
  refine CW.region (S := noS) [(0, .q), (1, .l)] rfl ?_
  refine EW.move rfl rfl rfl rfl rfl rfl ?_
  refine EW.callT3 hs 1 (SortI_spec _ _ (ints (n :: suf)) (hs.sub 1) (by simp [ints]) (by simp [ints]; omega)) rfl rfl rfl rfl rfl Tryz.func55 bd55 nm55 rfl (by first | exact .inl rfl | exact .inr (fun b h => h) | exact .inr (fun b h => ‹∀ b, _ → _› b h)) ?_
  clear hs; intro v32 w H'32 hs hst32 hp32
  subst hp32
  clear hst32
  rw [show upI (ints (n :: suf)) = ints (sortN (n :: suf)) from upI_nat _] at hs
  try simp only [List.cons_append, List.nil_append, List.drop_succ_cons, List.drop_zero] at hs
  refine EW.done ?_
  refine NW.seq ?_
  refine KW.seq ?_
  refine CW.region (S := noS) [(0, .q)] rfl ?_
  refine EW.assign rfl rfl rfl rfl rfl rfl ?_
  refine EW.done ?_
  refine NW.seq ?_
  refine KW.seq ?_
  refine KW.seq ?_
  refine CW.region (S := noS) [(0, .q), (1, .q), (2, .q)] rfl ?_
  refine EW.move rfl rfl rfl rfl rfl rfl ?_
  have hpl : (ints (n :: suf)).length = (sortN (n :: suf)).length := by simp [ints, hql]
  rw [hpl] at hs ⊢
  refine EW.len rfl rfl rfl rfl rfl rfl ?_
  refine EW.move rfl rfl rfl rfl rfl rfl ?_
  refine EW.done ?_
  refine NW.seq ?_
  refine KW.block ?_
  obtain ⟨q, hq⟩ : ∃ q, q = sortN (n :: suf) := ⟨_, rfl⟩
  rw [← hq] at hs hqm hql ⊢
  have hqi : (ints q).length = q.length := by simp [ints]
  have hq1 : ∀ p ∈ q, p < nodes.length := fun p hp => hlt p ((hqm p).1 hp)
  replace hs := hs.nil elL
  refine KW.loop (ι := Nat × Value) (fun i => q.length - i.1) (fun i => [(0, .pointer (some ⟨b, 0, none⟩)), (6, i.2), (33, .slice A21 q.length c21), (34, .int .i64 (q.length : Int)), (35, .int .i64 (i.1 : Int))]) (fun i w => i.1 ≤ q.length ∧ St w0 (fpU [pt b (.cells #[.slice An nodes.length cn, vO, vnum, vlow, .slice Ao (ints (pre ++ n :: suf)).length co, .slice Ai inn.length ci, .int .i64 (met : Int), .slice Ap (parts.map (·.1)).length cp] 62), own elI vnum num, own elI vlow low, own elI (.slice Ao (ints (pre ++ n :: suf)).length co) (ints (pre ++ n :: suf)), own elI (.slice Ai inn.length ci) inn, own elP (.slice Ap (parts.map (·.1)).length cp) (parts.map (·.1)), rows elL parts]) w [own elL i.2 (labsAt nodes (q.take i.1)), own elI (.slice A21 q.length c21) (ints q), pt b (.cells #[.slice An nodes.length cn, vO, vnum, vlow, .slice Ao pre.length co, .slice Ai inn.length ci, .int .i64 (met : Int), .slice Ap (parts.map (·.1)).length cp] 62), own elI vnum num, own elI vlow low, own elI (.slice Ao pre.length co) (ints pre), own elI (.slice Ai inn.length ci) (zeroAt inn (q.take i.1)), own elP (.slice Ap (parts.map (·.1)).length cp) (parts.map (·.1)), rows elL parts]) (0, .slice none 0 0) (by repeat (first | exact trivial | (refine ⟨by first | rfl | (congr 2; omega) | (simp; done) | (congr 1; simp; done), ?_⟩))) ?_ ?_
  · exact ⟨Nat.zero_le _, hs⟩
  clear hs
  rintro ⟨k, pv⟩ w ⟨hk, hs⟩
  dsimp only at hk hs
  obtain ⟨A6, c6, rfl, _, _⟩ := own_sl (hs.res 0 rfl)
  refine KW.seq ?_
  refine CW.region (S := noS) [(0, .q)] rfl ?_
  refine EW.bin rfl rfl rfl rfl rfl rfl rfl BV.lss ?_
  refine EW.done ?_
  refine NW.seq ?_
  refine KW.seq ?_
  by_cases hkl : k < q.length
  · refine CW.cond_t rfl (by simpa using hkl) ?_
    have hqk : q[k] < nodes.length := hq1 _ (List.getElem_mem hkl)
    obtain ⟨ad, rfl, _, hld⟩ := (hs.sl 1 rfl).at_ (i := k) (by rw [hqi]; exact hkl)
    have g1 : LDP Tryz.prog w 3 (ad.add ((k : Int).toNat * 1)) (.int .i64 ((q[k] : Nat) : Int)) := hld k _ (by rw [ints, List.getElem?_map, List.getElem?_eq_getElem hkl]; rfl)
    obtain ⟨ai, rfl, _⟩ := (hs.sl 6 rfl).at_ (i := q[k]) (by rw [zeroAt_len]; omega)
    obtain ⟨an, rfl, _⟩ := hN.at_ hqk
    have hlab : (labsAt nodes (q.take k)).length ≤ q.length := by
      refine Nat.le_trans (List.length_filterMap_le _ _) ?_
      rw [List.length_take]; omega
    refine KW.skip ?_
    refine NW.seq ?_
    refine KW.seq ?_
    refine KW.block ?_
    refine KW.seq ?_
    refine CW.region (S := noS) [(0, .q), (1, .q), (2, .q)] rfl ?_
    refine EW.indexAddr rfl rfl rfl rfl rfl rfl rfl (by omega) (by omega) ?_
    refine EW.loadP rfl rfl rfl rfl rfl rfl (by first | assumption | (apply LDP.drew; assumption) | exact St.ld1 hs 0 rfl rfl | exact St.ldA hs 0 rfl rfl rfl | exact St.ld1 hs 1 rfl rfl | exact St.ldA hs 1 rfl rfl rfl | exact St.ld1 hs 2 rfl rfl | exact St.ldA hs 2 rfl rfl rfl | exact St.ld1 hs 3 rfl rfl | exact St.ldA hs 3 rfl rfl rfl | exact St.ld1 hs 4 rfl rfl | exact St.ldA hs 4 rfl rfl rfl | exact St.ld1 hs 5 rfl rfl | exact St.ldA hs 5 rfl rfl rfl | exact St.ld1 hs 6 rfl rfl | exact St.ldA hs 6 rfl rfl rfl) (by first | exact .inl rfl | exact .inr (fun h => h)) ?_
    refine EW.assign rfl rfl rfl rfl rfl rfl ?_
    refine EW.done ?_
    refine NW.seq ?_
    refine KW.seq ?_
    refine CW.region (S := noS) [(0, .q), (1, .q), (2, .q), (3, .q), (4, .q), (5, .q), (6, .l)] rfl ?_
    refine EW.move rfl rfl rfl rfl rfl rfl ?_
    refine EW.nilCheck rfl rfl rfl rfl rfl rfl ?_
    first | refine EW.fieldAddr rfl rfl rfl rfl rfl rfl ?_ | refine EW.fieldAddrA rfl rfl rfl rfl rfl rfl ?_
    refine EW.loadP rfl rfl rfl rfl rfl rfl (by first | assumption | (apply LDP.drew; assumption) | exact St.ld1 hs 0 rfl rfl | exact St.ldA hs 0 rfl rfl rfl | exact St.ld1 hs 1 rfl rfl | exact St.ldA hs 1 rfl rfl rfl | exact St.ld1 hs 2 rfl rfl | exact St.ldA hs 2 rfl rfl rfl | exact St.ld1 hs 3 rfl rfl | exact St.ldA hs 3 rfl rfl rfl | exact St.ld1 hs 4 rfl rfl | exact St.ldA hs 4 rfl rfl rfl | exact St.ld1 hs 5 rfl rfl | exact St.ldA hs 5 rfl rfl rfl | exact St.ld1 hs 6 rfl rfl | exact St.ldA hs 6 rfl rfl rfl) (by first | exact .inl rfl | exact .inr (fun h => h)) ?_
    refine EW.move rfl rfl rfl rfl rfl rfl ?_
    refine EW.indexAddr rfl rfl rfl rfl rfl rfl rfl (by omega) (by omega) ?_
    refine EW.storeEl elI (j := q[k]) (z := 0) hs 6 (by rw [zeroAt_len]; omega) rfl rfl rfl rfl rfl rfl rfl (.inl rfl) ?_
    clear hs; intro w hs; dsimp only [List.set] at hs
    refine EW.done ?_
    refine NW.seq ?_
    refine CW.region (S := noS) [(0, .q), (1, .q), (2, .q), (3, .q), (4, .q), (5, .q), (6, .q), (7, .q), (8, .l), (9, .l), (10, .q)] rfl ?_
    refine EW.move rfl rfl rfl rfl rfl rfl ?_
    refine EW.move rfl rfl rfl rfl rfl rfl ?_
    refine EW.nilCheck rfl rfl rfl rfl rfl rfl ?_
    first | refine EW.fieldAddr rfl rfl rfl rfl rfl rfl ?_ | refine EW.fieldAddrA rfl rfl rfl rfl rfl rfl ?_
    refine EW.loadP rfl rfl rfl rfl rfl rfl (by first | assumption | (apply LDP.drew; assumption) | exact St.ld1 hs 0 rfl rfl | exact St.ldA hs 0 rfl rfl rfl | exact St.ld1 hs 1 rfl rfl | exact St.ldA hs 1 rfl rfl rfl | exact St.ld1 hs 2 rfl rfl | exact St.ldA hs 2 rfl rfl rfl | exact St.ld1 hs 3 rfl rfl | exact St.ldA hs 3 rfl rfl rfl | exact St.ld1 hs 4 rfl rfl | exact St.ldA hs 4 rfl rfl rfl | exact St.ld1 hs 5 rfl rfl | exact St.ldA hs 5 rfl rfl rfl | exact St.ld1 hs 6 rfl rfl | exact St.ldA hs 6 rfl rfl rfl) (by first | exact .inl rfl | exact .inr (fun h => h)) ?_
    refine EW.move rfl rfl rfl rfl rfl rfl ?_
    refine EW.indexAddr rfl rfl rfl rfl rfl rfl rfl (by omega) (by omega) ?_
    refine EW.loadP rfl rfl rfl rfl rfl rfl ((((hNk _ hs.keep).at_ hqk).elim fun ad' h => by have h1 := h.1; injection h1 with h1; subst h1; exact h.2.2 q[k] nodes[q[k]] (by simp)) : LDP Tryz.prog _ 44 (an.add (((q[k] : Nat) : Int).toNat * 2)) (encL nodes[q[k]])) (.inl rfl) ?_
    refine EW.lit1 elL (_) hs rfl rfl rfl rfl rfl rfl rfl ?_
    clear hs; intro b53 w hs
    first | refine EW.append1 elL 1 0 hs rfl rfl (by show _ * 32 ≤ 140737488355328; omega) (.inl rfl) rfl rfl rfl rfl rfl rfl rfl ?_ | refine EW.append1 elL 2 0 hs rfl rfl (by show _ * 32 ≤ 140737488355328; omega) (.inl rfl) rfl rfl rfl rfl rfl rfl rfl ?_ | refine EW.append1 elL 3 0 hs rfl rfl (by show _ * 32 ≤ 140737488355328; omega) (.inl rfl) rfl rfl rfl rfl rfl rfl rfl ?_ | refine EW.append1 elL 4 0 hs rfl rfl (by show _ * 32 ≤ 140737488355328; omega) (.inl rfl) rfl rfl rfl rfl rfl rfl rfl ?_ | refine EW.append1 elL 5 0 hs rfl rfl (by show _ * 32 ≤ 140737488355328; omega) (.inl rfl) rfl rfl rfl rfl rfl rfl rfl ?_ | refine EW.append1 elL 6 0 hs rfl rfl (by show _ * 32 ≤ 140737488355328; omega) (.inl rfl) rfl rfl rfl rfl rfl rfl rfl ?_ | refine EW.append1 elL 7 0 hs rfl rfl (by show _ * 32 ≤ 140737488355328; omega) (.inl rfl) rfl rfl rfl rfl rfl rfl rfl ?_
    clear hs; intro v54 w hs; dsimp only [List.set] at hs; replace hs := hs.tail
    refine EW.assign rfl rfl rfl rfl rfl rfl ?_
    refine EW.done ?_
    refine NW.blk ?_
    refine NW.seq ?_
    refine CW.region (S := noS) [(0, .q), (1, .q)] rfl ?_
    refine EW.bin rfl rfl rfl rfl rfl rfl rfl (BV.add (wrap_i64 (by omega) (by omega))) ?_
    refine EW.move rfl rfl rfl rfl rfl rfl ?_
    refine EW.done ?_
    refine NW.again ((k + 1, v54)) (by first | assumption | (dsimp only; omega) | omega | (simp; omega)) (by repeat (first | exact trivial | (refine ⟨by first | rfl | (congr 2; omega) | (simp; done) | (congr 1; simp; done), ?_⟩))) ?_
    try dsimp only
    refine ⟨hkl, ?_⟩
    have et : q.take (k + 1) = q.take k ++ [q[k]] := by rw [List.take_add_one, List.getElem?_eq_getElem hkl]; rfl
    have e1 : labsAt nodes (q.take (k + 1)) = labsAt nodes (q.take k) ++ [nodes[q[k]]] := by
      rw [et, labsAt, List.filterMap_append]
      congr 1
      simp [hqk]
    have e2 : zeroAt inn (q.take (k + 1)) = (zeroAt inn (q.take k)).set q[k] 0 := by
      rw [et, zeroAt, List.foldl_append]; rfl
    rw [e1, e2]
    exact hs
  · refine CW.cond_f rfl (by simpa using hkl) ?_
    have hke : k = q.length := by omega
    subst hke
    simp only [List.take_length] at hs ⊢
    refine KW.exit ?_
    refine XW.seq ?_
    refine XW.inv ?_
    refine XW.blk ?_
    refine NW.seq ?_
    refine CW.region (S := noS) [(0, .q), (1, .q), (2, .q), (3, .q), (4, .q), (5, .q), (6, .l), (7, .l), (8, .q), (9, .q), (10, .l)] rfl ?_
    refine EW.move rfl rfl rfl rfl rfl rfl ?_
    refine EW.move rfl rfl rfl rfl rfl rfl ?_
    refine EW.nilCheck rfl rfl rfl rfl rfl rfl ?_
    first | refine EW.fieldAddr rfl rfl rfl rfl rfl rfl ?_ | refine EW.fieldAddrA rfl rfl rfl rfl rfl rfl ?_
    refine EW.loadP rfl rfl rfl rfl rfl rfl (by first | assumption | (apply LDP.drew; assumption) | exact St.ld1 hs 0 rfl rfl | exact St.ldA hs 0 rfl rfl rfl | exact St.ld1 hs 1 rfl rfl | exact St.ldA hs 1 rfl rfl rfl | exact St.ld1 hs 2 rfl rfl | exact St.ldA hs 2 rfl rfl rfl | exact St.ld1 hs 3 rfl rfl | exact St.ldA hs 3 rfl rfl rfl | exact St.ld1 hs 4 rfl rfl | exact St.ldA hs 4 rfl rfl rfl | exact St.ld1 hs 5 rfl rfl | exact St.ldA hs 5 rfl rfl rfl | exact St.ld1 hs 6 rfl rfl | exact St.ldA hs 6 rfl rfl rfl) (by first | exact .inl rfl | exact .inr (fun h => h)) ?_
    refine EW.move rfl rfl rfl rfl rfl rfl ?_
    refine EW.lit1 elP ((A6, (labsAt nodes q).length, c6)) hs rfl rfl rfl rfl rfl rfl rfl ?_
    clear hs; intro b62 w hs
    refine EW.append1 elP 8 0 hs rfl rfl (by show ((parts.map (·.1)).length + 1) * 24 ≤ 140737488355328; rw [List.length_map]; omega) (.inl rfl) rfl rfl rfl rfl rfl rfl rfl ?_
    clear hs; intro v63 w hs; dsimp only [List.set] at hs; replace hs := hs.tail
    obtain ⟨A63, c63, rfl, _⟩ := own_sl (hs.res 7 rfl)
    refine EW.nilCheck rfl rfl rfl rfl rfl rfl ?_
    first | refine EW.fieldAddr rfl rfl rfl rfl rfl rfl ?_ | refine EW.fieldAddrA rfl rfl rfl rfl rfl rfl ?_
    first | refine EW.store hs 0 rfl rfl rfl rfl rfl rfl rfl rfl rfl (by simp [Value.oneCell', Value.cells]) rfl (.inl rfl) ?_ | refine EW.store hs 1 rfl rfl rfl rfl rfl rfl rfl rfl rfl (by simp [Value.oneCell', Value.cells]) rfl (.inl rfl) ?_ | refine EW.store hs 2 rfl rfl rfl rfl rfl rfl rfl rfl rfl (by simp [Value.oneCell', Value.cells]) rfl (.inl rfl) ?_ | refine EW.store hs 3 rfl rfl rfl rfl rfl rfl rfl rfl rfl (by simp [Value.oneCell', Value.cells]) rfl (.inl rfl) ?_ | refine EW.store hs 4 rfl rfl rfl rfl rfl rfl rfl rfl rfl (by simp [Value.oneCell', Value.cells]) rfl (.inl rfl) ?_ | refine EW.store hs 5 rfl rfl rfl rfl rfl rfl rfl rfl rfl (by simp [Value.oneCell', Value.cells]) rfl (.inl rfl) ?_ | refine EW.store hs 6 rfl rfl rfl rfl rfl rfl rfl rfl rfl (by simp [Value.oneCell', Value.cells]) rfl (.inl rfl) ?_
    clear hs; intro w hs; dsimp only [List.set, setAt] at hs
    refine EW.done ?_
    replace hs := hs.pick [8, 0, 2, 3, 4, 5, 6, 7] (by decide)
    simp only [List.filterMap_cons, List.filterMap_nil, List.getElem?_cons_succ, List.getElem?_cons_zero] at hs
    replace hs := St.rowAdd (s := (A6, (labsAt nodes q).length, c6)) hs
    refine NW.end0 rfl ?_
    refine ⟨_, rfl, hs.keep, ?_⟩
    refine ⟨_, hs.pick [1, 2, 3, 4, 5, 6, 0] (by decide), .slice Ao pre.length co, .slice A63 (parts.map (·.1) ++ [(A6, (labsAt nodes q).length, c6)]).length c63, (A6, (labsAt nodes q).length, c6), ?_⟩
    simp only [List.filterMap_cons, List.filterMap_nil, List.getElem?_cons_succ, List.getElem?_cons_zero]
    simp [wkR, WS.close, ← hq, setAt, Value.cells]
end Go.Cw.Tryz
set_option linter.unusedVariables false
set_option linter.unusedSimpArgs false
namespace Go.Cw.Tryz
open Go.Proofs Go.Cw Go.Shelf Go.Sort
attribute [local irreducible] Go.Addr.add

/-- Labels that the order takes. -/
abbrev LabS := { l : Lab // Cw.Sm l }
instance : Inhabited LabS := ⟨⟨⟨⟨#[]⟩, ⟨#[]⟩⟩, ⟨by decide, by decide⟩⟩⟩
def cfS (x y : LabS) : Int := cmpLab x.1 y.1
theorem ltS (x y : LabS) : ltOf cfS x y = ltLab x.1 y.1 := rfl
theorem swoS : SWO (ltOf cfS) := {
  irrefl x := lt_irrefl x.1
  trans x y z h1 h2 := lt_trans (a := x.1) (b := y.1) (c := z.1) h1 h2
  ntrans x y z h1 h2 := by
    rw [ltS] at *
    rcases lt_tri x.1 y.1 with h | h | h
    · rw [h1] at h; cases h
    · rw [h]; exact h2
    · rcases lt_tri y.1 z.1 with k | k | k
      · rw [h2] at k; cases k
      · rw [← k]; exact h1
      · exact lt_asymm (lt_trans k h) }
theorem SortL_spec (w0 : World) (A : Addr) (c : Nat) (xs : List Lab) (hs : St w0 (fpU [own elL (.slice (some A) xs.length c) xs]) w0 [own elL (.slice (some A) xs.length c) xs]) (hsm : ∀ x ∈ xs, Cw.Sm x) (hnd : xs.Nodup) (hl : xs.length ≤ 1000000) (hg : GL w0) (hgl : ¬ fpU [own elL (.slice (some A) xs.length c) xs] (Tryz.laySplit_ren.g 1)) :
    T3 Tryz.prog 35 [.slice (some A) xs.length c, .func (.func 36) #[] #[]] w0 [own elL (.slice (some A) xs.length c) xs] fun r w' H' => H' = [own elL (.slice (some A) (risingL xs).length c) (risingL xs)] := by
  obtain ⟨g, cs, rfl, _, _, _, _, _, hs1⟩ := hs.open_ 0 rfl
  have hlt : g < w0.heap.size := (pt g _).old w0 (hs1.res 0 rfl) g rfl
  clear hs1
  obtain ⟨d, hd⟩ : ∃ d : Array LabS, d = (xs.pmap (fun l h => (⟨l, h⟩ : LabS)) hsm).toArray := ⟨_, rfl⟩
  have hdx : d.toList.map (·.1) = xs := by rw [hd]; simp [List.map_pmap]
  have hds : d.size = xs.length := by rw [hd]; simp
  have hown : (own elL (.slice (some ⟨g, 0, none⟩) xs.length c) (d.toList.map (·.1))).holds w0 := by rw [hdx]; exact hs.res 0 rfl
  have hH := holdsK_own elL (fun (x : LabS) => x.1) hown
  have hcmp : CmpLays Tryz.prog 36 #[] (fun (x : LabS) => (elL.enc x.1).cells.toList) 2 cfS g 0 d.size w0 := fun m os dk hdk x y => by
    obtain ⟨hk, _⟩ := own_sortedK elL (fun (x : LabS) => x.1) (m := m) (os := os) (d' := dk) hown hdk
    rw [hdx] at hk
    have hgW : GL (sortWorldK (fun (x : LabS) => (elL.enc x.1).cells.toList) 2 w0 g 0 m dk os) := hg.keep hk (fun h => hgl ⟨_, List.mem_singleton.2 rfl, h⟩)
    exact (order_spec _ x.1 y.1 x.2 y.2 hgW).grows (fun _ _ h => h)
  have eg : ∀ args w, (callFunc 36 args).run Tryz.prog w = .ok (.enter 36 args) w := enters_of Tryz.func36 (by kernel_rfl) rfl
  have hm := AnyQ.slices_SortFunc Tryz.laySortL 2 (fun w => TyI.agg (P := Tryz.prog) (t := 44) w) (fun w => TyI.size (P := Tryz.prog) (t := 44) w) (fun (x : LabS) => (elL.enc x.1).cells.toList) (fun _ => rfl) (fun x v hv => elL.one x.1 v hv) cfS swoS 36 #[] g 0 c d w0 eg hcmp hH hlt (by omega)
  have hargs : (#[.slice (some ⟨g, 0, none⟩) d.size c, .func (.func 36) #[] #[]] : Array Value) = [.slice (some ⟨g, 0, none⟩) xs.length c, .func (.func 36) #[] #[]].toArray := by rw [hds]
  rw [hargs] at hm
  refine Calls.mono hm fun e w' ⟨he, d', n, os, hp, hso, hw⟩ => ?_
  subst he hw
  obtain ⟨hp1, _, hp3⟩ := hp
  obtain ⟨hk, ho⟩ := own_sortedK elL (fun (x : LabS) => x.1) (m := n) (os := os) (d' := d') hown hp1
  have hperm : (d'.toList.map (·.1)).Perm xs := by
    have h1 : d'.extract 0 d.size = d' := by rw [← hp1]; simp
    have h2 : d.extract 0 d.size = d := by simp
    rw [h1, h2] at hp3
    rw [← hdx]
    exact hp3.map _
  have hso' : SortedL (d'.toList.map (·.1)) := by
    have hnd' : (d'.toList.map (·.1)).Nodup := hperm.nodup_iff.2 hnd
    unfold SortedL
    rw [List.pairwise_iff_getElem]
    intro i j hi hj hij
    have hj' : j < d'.size := by simpa using hj
    have hi' : i < d'.size := by omega
    have h := hso i j (Nat.zero_le _) hij (by omega)
    rw [ltS, getElem!_pos d' i hi', getElem!_pos d' j hj'] at h
    rcases lt_tri (d'.toList.map (·.1))[i] (d'.toList.map (·.1))[j] with h1 | h1 | h1
    · exact h1
    · exact absurd ((List.getElem_inj hnd').1 h1) (by omega)
    · rw [List.getElem_map, List.getElem_map, Array.getElem_toList, Array.getElem_toList] at h1
      rw [h1] at h; cases h
  have hys : d'.toList.map (·.1) = risingL xs := sorted_unique hso' (rising_spec xs).1 (fun a => by rw [hperm.mem_iff, (rising_spec xs).2])
  have hlen : (risingL xs).length = xs.length := by rw [← hys, hperm.length_eq]
  rw [hdx] at hk
  rw [hys] at ho
  have hst := hs.turn 0 rfl hk ho (fun b hb => .inl hb)
  rw [hlen]
  exact ⟨_, rfl, hst.keep, _, hst, rfl⟩
end Go.Cw.Tryz
set_option linter.unusedVariables false
set_option linter.unusedSimpArgs false
namespace Go.Cw
theorem EW.lenM {κ : Type} [DecidableEq κ] {P : Program} {K : KeyT P κ} {m : Bool} {S : Nat → Prop} {n : Nat} {ops : Array Oper} {Q : Exit → Act → World → Prop} {i : Nat} {o : Oper} {d : Nat} {l : List (Nat × Kd3)} {e : Env} {w : World} {b : Nat} {kv : List (κ × Value)} {x : Operand} {t et : TypeId} (hm : MapA K w b kv) (ht : P.underlying t = some (.map K.ty et)) (ho : ops[i]? = some o) (hop : o.op = .call { callee := .builtin .len, args := #[x], argTypes := #[t] }) (hg : wantedE ops e o = some true) (hd : o.dst = some d) (hdn : Nat.blt d n = true) (hx : ev e x = some (.map (some b))) (hS : m = true ∨ ¬ S b)
    (h : EW P m S n ops Q l ((d, .int .i64 (kv.length : Int)) :: e) w) : EW P m S n ops Q ((i, .q) :: l) e w :=
  EW.q ho hg hd hdn (fun a ha w' hc => by
    have hm' : MapA K w' b kv := by
      unfold Cl at hc
      split at hc
      · subst hc; exact hm
      · rename_i hmm; exact hm.keep hc (hS.resolve_left hmm)
    obtain ⟨es, clock, hx⟩ := hm'.x
    have hlen := hx.len
    simp [Qt, execOp, hop, ha.eval ‹ev e x = _›, resolve, invoke, builtin, Builtin.len_, run_underlying ht, MapKept.run_getObj_map hx.heap, goInt, hlen]) h
end Go.Cw
namespace Go.Cw.Tryz
open Go.Proofs Go.Cw Go.Shelf
attribute [local irreducible] Go.Addr.add

theorem Nodes_spec (w0 : World) (b mb : Nat) (ps : List PE) (g : RG) (hg : PGA w0 b mb ps) (hp : IsPG ps g) (hok : g.Ok) (hnl : g.N.length ≤ 100000) (hsm : ∀ a ∈ g.N, Cw.Sm a) (hgl : GL w0) :
    T1 Tryz.prog 14 [.pointer (some ⟨b, 0, none⟩)] w0 fun v w' => Fresh elL w0 w' v (risingL g.N) := by
  have hpl : ps.length = g.N.length := by rw [← hp.keys]; simp
  obtain ⟨es, clock, hmx0⟩ := hg.mp.x
  have hkl : (kvOf ps).length = ps.length := by simp [kvOf]
  refine KW.enterT1 (n := 28) Tryz.func14 rfl rfl rfl ?_
  have hs := St.init w0 noS
  have hgld : ∀ w, Keep noS w0 w → _ := fun w hk => hg.ld hk
  refine KW.seq ?_
  refine CW.region (S := noS) [(0, .q)] rfl ?_
  refine EW.assign rfl rfl rfl rfl rfl rfl ?_
  refine EW.done ?_
  refine NW.seq ?_
  refine KW.seq ?_
  refine CW.region (S := noS) [(0, .q), (1, .q), (2, .q), (3, .q), (4, .q), (5, .q), (6, .l), (7, .q)] rfl ?_
  refine EW.move rfl rfl rfl rfl rfl rfl ?_
  refine EW.nilCheck rfl rfl rfl rfl rfl rfl ?_
  first | refine EW.fieldAddr rfl rfl rfl rfl rfl rfl ?_ | refine EW.fieldAddrA rfl rfl rfl rfl rfl rfl ?_
  refine EW.loadP rfl rfl rfl rfl rfl rfl (by first | with_reducible exact hgld _ hs.keep | assumption | (apply LDP.drew; assumption) | exact St.ld1 hs 0 rfl rfl | exact St.ldA hs 0 rfl rfl rfl | exact St.ld1 hs 1 rfl rfl | exact St.ldA hs 1 rfl rfl rfl | exact St.ld1 hs 2 rfl rfl | exact St.ldA hs 2 rfl rfl rfl | exact St.ld1 hs 3 rfl rfl | exact St.ldA hs 3 rfl rfl rfl | exact St.ld1 hs 4 rfl rfl | exact St.ldA hs 4 rfl rfl rfl | exact St.ld1 hs 5 rfl rfl | exact St.ldA hs 5 rfl rfl rfl | exact St.ld1 hs 6 rfl rfl | exact St.ldA hs 6 rfl rfl rfl) (by first | exact .inl rfl | exact .inr (fun h => h)) ?_
  refine EW.lenM ((hg.stay hs.keep).mp) ht68 rfl rfl rfl rfl rfl rfl (.inl rfl) ?_
  refine EW.max rfl rfl rfl rfl rfl rfl rfl ?_
  obtain ⟨c0, hc0, hc1⟩ : ∃ c0 : Nat, (if (1 : Int) > ((kvOf ps).length : Int) then (1 : Int) else ((kvOf ps).length : Int)) = (c0 : Int) ∧ c0 ≤ 100001 := by
    rw [hkl, hpl]
    split
    · exact ⟨1, rfl, by omega⟩
    · exact ⟨g.N.length, rfl, by omega⟩
  rw [hc0]
  refine EW.make0 elL hs rfl rfl rfl rfl rfl rfl rfl (by show 32 * c0 ≤ 281474976710656; omega) (by simp only [maxLen]; omega) ?_
  clear hs; intro b11 w hs
  refine EW.assign rfl rfl rfl rfl rfl rfl ?_
  refine EW.done ?_
  refine NW.seq ?_
  refine KW.seq ?_
  refine KW.seq ?_
  refine CW.region (S := noS) [(0, .q), (1, .q), (2, .q), (3, .q), (4, .l)] rfl ?_
  refine EW.move rfl rfl rfl rfl rfl rfl ?_
  refine EW.nilCheck rfl rfl rfl rfl rfl rfl ?_
  first | refine EW.fieldAddr rfl rfl rfl rfl rfl rfl ?_ | refine EW.fieldAddrA rfl rfl rfl rfl rfl rfl ?_
  refine EW.loadP rfl rfl rfl rfl rfl rfl (by first | with_reducible exact hgld _ hs.keep | assumption | (apply LDP.drew; assumption) | exact St.ld1 hs 0 rfl rfl | exact St.ldA hs 0 rfl rfl rfl | exact St.ld1 hs 1 rfl rfl | exact St.ldA hs 1 rfl rfl rfl | exact St.ld1 hs 2 rfl rfl | exact St.ldA hs 2 rfl rfl rfl | exact St.ld1 hs 3 rfl rfl | exact St.ldA hs 3 rfl rfl rfl | exact St.ld1 hs 4 rfl rfl | exact St.ldA hs 4 rfl rfl rfl | exact St.ld1 hs 5 rfl rfl | exact St.ldA hs 5 rfl rfl rfl | exact St.ld1 hs 6 rfl rfl | exact St.ldA hs 6 rfl rfl rfl) (by first | exact .inl rfl | exact .inr (fun h => h)) ?_
  refine EW.range hs (hmx0.keep hs.keep (fun x => x)) ht68 rfl rfl rfl rfl rfl rfl ?_
  clear hs; intro it w hs
  refine EW.done ?_
  refine NW.seq ?_
  refine KW.block ?_
  refine KW.loop (ι := List Nat × Addr × Nat) (fun i => ps.length - i.1.length) (fun i => [(3, .slice (some i.2.1) i.1.length i.2.2), (16, .pointer (some ⟨it, 0, none⟩))]) (fun i w => i.1.Nodup ∧ (∀ j ∈ i.1, j < ps.length) ∧ St w0 noS w [own elL (.slice (some i.2.1) i.1.length i.2.2) (i.1.filterMap fun j => (ps[j]?).map (·.1)), pt it (.mapIter (some mb) clock (seenOf es i.1) clock)]) ([], ⟨b11, 0, none⟩, c0) (by repeat (first | exact trivial | (refine ⟨by first | rfl | (congr 2; omega) | (simp; done) | (congr 1; simp; done), ?_⟩))) ?_ ?_
  · exact ⟨List.nodup_nil, (by simp), hs.pick [1, 0] (by decide)⟩
  clear hs
  rintro ⟨done, A3, c3⟩ w ⟨hnd0, hlt0, hs⟩
  dsimp only at hnd0 hlt0 hs
  have hdl := done_len hnd0 hlt0
  have hfl : ∀ l : List Nat, (∀ j ∈ l, j < ps.length) → (l.filterMap fun j => (ps[j]?).map (·.1)).length = l.length := by
    intro l
    induction l with
    | nil => intro _; rfl
    | cons j r ih =>
      intro h
      have hj := h j (by simp)
      simp [List.filterMap_cons, hj, ih fun k hk => h k (by simp [hk])]
  refine KW.seq ?_
  refine CW.region (S := noS) [(0, .l), (1, .q)] rfl ?_
  refine EW.next hs 1 (hmx0.keep hs.keep (fun x => x)) rfl rfl rfl rfl rfl rfl rfl (.inl rfl) (fun hall => ?_) (fun j p w hj hnd hs => ?_)
  · skip
    refine EW.extract rfl rfl rfl rfl rfl rfl rfl ?_
    refine EW.done ?_
    refine NW.seq ?_
    refine KW.seq ?_
    refine CW.cond_f rfl (rfl) ?_
    obtain ⟨xs, hxs⟩ : ∃ xs, xs = done.filterMap fun j => (ps[j]?).map (·.1) := ⟨_, rfl⟩
    rw [← hxs] at hs
    have hxl : xs.length = done.length := by rw [hxs]; exact hfl done hlt0
    have hxm : ∀ a, a ∈ xs ↔ a ∈ g.N := fun a => by
      rw [hxs, List.mem_filterMap, ← hp.keys, List.mem_map]
      constructor
      · rintro ⟨j, _, hj⟩
        obtain ⟨p, hp1, hp2⟩ := Option.map_eq_some_iff.1 hj
        exact ⟨p, List.mem_of_getElem? hp1, hp2⟩
      · rintro ⟨p, hpm, rfl⟩
        obtain ⟨j, hj⟩ := List.mem_iff_getElem?.1 hpm
        exact ⟨j, hall j (by rw [hkl]; exact (List.getElem?_eq_some_iff.1 hj).1), by rw [hj]; rfl⟩
    have hxn : xs.Nodup := by
      have h1 : (ps.map (·.1)).Nodup := by rw [hp.keys]; exact hok.nodup
      rw [hxs, List.Nodup, List.pairwise_filterMap]
      refine List.Pairwise.imp_of_mem ?_ hnd0
      intro i j _ _ hij a ha b' hb' hab
      subst hab
      have h2 : (ps.map (·.1))[i]? = some a := by rw [List.getElem?_map]; exact ha
      have h3 : (ps.map (·.1))[j]? = some a := by rw [List.getElem?_map]; exact hb'
      exact hij ((List.getElem?_inj (List.getElem?_eq_some_iff.1 h2).1 h1).1 (h2.trans h3.symm))
    rw [← hxl] at hs ⊢
    have hnew : ¬ fpU [own elL (.slice (some A3) xs.length c3) xs] (Tryz.laySplit_ren.g 1) := fun ⟨R, hR, hb⟩ => by
      have h1 := hgl.lt
      have h2 : w0.heap.size ≤ Tryz.laySplit_ren.g 1 := (hs.own R (by rw [List.mem_singleton.1 hR]; simp) _ hb).resolve_right (fun x => x)
      omega
    refine KW.exit ?_
    refine XW.seq ?_
    refine XW.inv ?_
    refine XW.blk ?_
    refine NW.seq ?_
    refine KW.seq ?_
    refine CW.region (S := noS) [(0, .q), (1, .l)] rfl ?_
    refine EW.move rfl rfl rfl rfl rfl rfl ?_
    refine EW.callT3 hs 1 (SortL_spec _ A3 c3 xs (hs.sub 1) (fun x hx => hsm x ((hxm x).1 hx)) hxn (by omega) (hgl.stay hs.keep) hnew) rfl rfl rfl rfl rfl Tryz.func35 bd35 nm35 rfl (by first | exact .inl rfl | exact .inr (fun b h => h) | exact .inr (fun b h => ‹∀ b, _ → _› b h)) ?_
    clear hs; intro v26 w H'26 hs hst26 hp26
    subst hp26
    clear hst26
    try simp only [List.cons_append, List.nil_append, List.drop_succ_cons, List.drop_zero] at hs
    refine EW.done ?_
    refine NW.seq ?_
    refine KW.seq ?_
    refine CW.region (S := noS) [(0, .q), (1, .q)] rfl ?_
    refine EW.move rfl rfl rfl rfl rfl rfl ?_
    refine EW.assign rfl rfl rfl rfl rfl rfl ?_
    refine EW.done ?_
    refine NW.seq ?_
    have e1 : risingL xs = risingL g.N := sorted_unique (rising_spec _).1 (rising_spec _).1 fun a => by rw [(rising_spec _).2, (rising_spec _).2, hxm]
    have e2 : (risingL xs).length = xs.length := by
      have hn2 : (risingL xs).Nodup := (rising_spec xs).1.imp fun {a b} h e => by rw [e, lt_irrefl] at h; cases h
      exact Nat.le_antisymm (nodup_sub_len _ _ hn2 fun a ha => ((rising_spec xs).2 a).1 ha) (nodup_sub_len _ _ hxn fun a ha => ((rising_spec xs).2 a).2 ha)
    refine KW.ret1 rfl rfl ?_
    refine ⟨_, rfl, hs.keep, ?_⟩
    rw [e1] at hs e2
    rw [← e2]
    exact hs.to_fresh 0 rfl
  · skip
    obtain ⟨q, hq, rfl⟩ : ∃ q : PE, ps[j]? = some q ∧ p = (q.1, svV q.2.1) := by
      simp only [kvOf, List.getElem?_map, Option.map_eq_some_iff] at hj
      obtain ⟨q, hq, he⟩ := hj
      exact ⟨q, hq, he.symm⟩
    dsimp only [List.set] at hs
    have hjl : j < ps.length := (List.getElem?_eq_some_iff.1 hq).1
    have hnd2 : (done ++ [j]).Nodup := List.nodup_append.2 ⟨hnd0, by simp, fun u hu v hv huv => by rw [List.mem_singleton.1 hv] at huv; exact hnd (huv ▸ hu)⟩
    have hlt2 : ∀ u ∈ done ++ [j], u < ps.length := fun u hu => by
      rcases List.mem_append.1 hu with h1 | h1
      · exact hlt0 u h1
      · rw [List.mem_singleton.1 h1]; exact hjl
    have hdl2 := done_len hnd2 hlt2
    rw [List.length_append, List.length_singleton] at hdl2
    have hfe : (done ++ [j]).filterMap (fun j => (ps[j]?).map (·.1)) = (done.filterMap fun j => (ps[j]?).map (·.1)) ++ [q.1] := by
      rw [List.filterMap_append]; congr 1; simp [hq]
    obtain ⟨xs, hxs⟩ : ∃ xs, xs = done.filterMap fun j => (ps[j]?).map (·.1) := ⟨_, rfl⟩
    have hxl : xs.length = done.length := by rw [hxs]; exact hfl done hlt0
    refine EW.extract rfl rfl rfl rfl rfl rfl rfl ?_
    refine EW.done ?_
    refine NW.seq ?_
    refine KW.seq ?_
    refine CW.cond_t rfl (rfl) ?_
    refine KW.skip ?_
    refine NW.seq ?_
    refine KW.block ?_
    refine KW.seq ?_
    refine CW.region (S := noS) [(0, .q), (1, .q), (2, .l), (3, .l)] rfl ?_
    refine EW.entry hs 1 (hmx0.keep hs.keep (fun x => x)) hj rfl rfl rfl rfl rfl rfl rfl rfl ?_
    rw [KLenc]
    refine EW.extract rfl rfl rfl rfl rfl rfl rfl ?_
    refine EW.alloc (z := .agg #[.string ByteArray.empty, .string ByteArray.empty]) hs rfl rfl rfl rfl rfl (by kernel_rfl) ?_
    clear hs; intro b4 w hs; dsimp only [Value.cells] at hs
    first | refine EW.store hs 0 rfl rfl rfl rfl rfl rfl rfl rfl rfl (by simp [encL, Value.oneCell', Value.cells]) rfl (.inl rfl) ?_ | refine EW.store hs 1 rfl rfl rfl rfl rfl rfl rfl rfl rfl (by simp [encL, Value.oneCell', Value.cells]) rfl (.inl rfl) ?_ | refine EW.store hs 2 rfl rfl rfl rfl rfl rfl rfl rfl rfl (by simp [encL, Value.oneCell', Value.cells]) rfl (.inl rfl) ?_ | refine EW.store hs 3 rfl rfl rfl rfl rfl rfl rfl rfl rfl (by simp [encL, Value.oneCell', Value.cells]) rfl (.inl rfl) ?_ | refine EW.store hs 4 rfl rfl rfl rfl rfl rfl rfl rfl rfl (by simp [encL, Value.oneCell', Value.cells]) rfl (.inl rfl) ?_ | refine EW.store hs 5 rfl rfl rfl rfl rfl rfl rfl rfl rfl (by simp [encL, Value.oneCell', Value.cells]) rfl (.inl rfl) ?_ | refine EW.store hs 6 rfl rfl rfl rfl rfl rfl rfl rfl rfl (by simp [encL, Value.oneCell', Value.cells]) rfl (.inl rfl) ?_
    clear hs; intro w hs; dsimp only [List.set, setAt] at hs
    refine EW.done ?_
    refine NW.seq ?_
    refine CW.region (S := noS) [(0, .q), (1, .q), (2, .l), (3, .l), (4, .q)] rfl ?_
    refine EW.move rfl rfl rfl rfl rfl rfl ?_
    refine EW.loadP rfl rfl rfl rfl rfl rfl (by first | with_reducible exact hgld _ hs.keep | assumption | (apply LDP.drew; assumption) | exact St.ld1 hs 0 rfl rfl | exact St.ldA hs 0 rfl rfl rfl | exact St.ld1 hs 1 rfl rfl | exact St.ldA hs 1 rfl rfl rfl | exact St.ld1 hs 2 rfl rfl | exact St.ldA hs 2 rfl rfl rfl | exact St.ld1 hs 3 rfl rfl | exact St.ldA hs 3 rfl rfl rfl | exact St.ld1 hs 4 rfl rfl | exact St.ldA hs 4 rfl rfl rfl | exact St.ld1 hs 5 rfl rfl | exact St.ldA hs 5 rfl rfl rfl | exact St.ld1 hs 6 rfl rfl | exact St.ldA hs 6 rfl rfl rfl) (by first | exact .inl rfl | exact .inr (fun h => h)) ?_
    refine EW.lit1 elL (_) hs rfl rfl rfl rfl rfl rfl rfl ?_
    clear hs; intro b23 w hs
    rw [← hxs] at hs
    refine EW.append1 elL 2 0 hs rfl rfl (by show (xs.length + 1) * 32 ≤ 140737488355328; omega) (.inl rfl) rfl rfl rfl rfl rfl rfl rfl ?_
    clear hs; intro v24 w hs; dsimp only [List.set] at hs; replace hs := hs.tail
    obtain ⟨A24, c24, rfl, hsl24, _⟩ := own_sl (hs.res 1 rfl)
    refine EW.assign rfl rfl rfl rfl rfl rfl ?_
    refine EW.done ?_
    refine NW.blk ?_
    obtain ⟨a24, rfl, _⟩ := hsl24.some_ (by simp)
    have hl24 : (xs ++ [q.1]).length = (done ++ [j]).length := by simp [hxl]
    rw [hl24] at hs ⊢
    refine NW.again ((done ++ [j], a24, c24)) (by first | assumption | (dsimp only; omega) | omega | (simp; omega)) (by repeat (first | exact trivial | (refine ⟨by first | rfl | (congr 2; omega) | (simp; done) | (congr 1; simp; done), ?_⟩))) ?_
    try dsimp only
    refine ⟨hnd2, hlt2, ?_⟩
    rw [hfe, ← hxs]
    exact hs.pick [1, 2] (by decide)
end Go.Cw.Tryz
set_option linter.unusedVariables false
set_option linter.unusedSimpArgs false
namespace Go.Cw.Tryz
open Go.Proofs Go.Cw Go.Shelf
attribute [local irreducible] Go.Addr.add
theorem same_spec (w0 : World) (A B : Option Addr) (ca cb : Nat) (xs ys : List Lab) (hx : SlA elL w0 A xs) (hy : SlA elL w0 B ys) (hl : xs.length ≤ 1000000) (hl2 : ys.length ≤ 1000000) :
    T1 Tryz.prog 13 [.slice A xs.length ca, .slice B ys.length cb] w0 fun v w' => v = .bool (decide (xs = ys)) := by
  refine KW.enterT1 (n := 26) Tryz.func13 rfl rfl rfl ?_
  have hs := St.init w0 noS
  refine KW.seq ?_
  refine CW.region (S := noS) [(0, .q)] rfl ?_
  refine EW.assign rfl rfl rfl rfl rfl rfl ?_
  refine EW.done ?_
  refine NW.seq ?_
  refine KW.seq ?_
  refine KW.seq ?_
  refine CW.region (S := noS) [(0, .q), (1, .q), (2, .q), (3, .q), (4, .q)] rfl ?_
  refine EW.move rfl rfl rfl rfl rfl rfl ?_
  refine EW.len rfl rfl rfl rfl rfl rfl ?_
  refine EW.move rfl rfl rfl rfl rfl rfl ?_
  refine EW.len rfl rfl rfl rfl rfl rfl ?_
  refine EW.bin rfl rfl rfl rfl rfl rfl rfl BV.nei ?_
  refine EW.done ?_
  refine NW.seq ?_
  refine KW.cond rfl (fun h1 => ?_) (fun h1 => ?_)
  · skip
    refine KW.seq ?_
    refine CW.region (S := noS) [(0, .q)] rfl ?_
    refine EW.assign rfl rfl rfl rfl rfl rfl ?_
    refine EW.done ?_
    refine NW.seq ?_
    refine KW.ret1 rfl rfl ?_
    refine ⟨_, rfl, hs.keep, ?_⟩
    have h1' : xs ≠ ys := fun h => by subst h; simp at h1
    simp [h1']
  · skip
    have h1' : xs.length = ys.length := by simp at h1; omega
    refine KW.skip ?_
    refine NW.seq ?_
    refine KW.seq ?_
    refine KW.seq ?_
    refine CW.region (S := noS) [(0, .q)] rfl ?_
    refine EW.assign rfl rfl rfl rfl rfl rfl ?_
    refine EW.done ?_
    refine NW.seq ?_
    refine KW.block ?_
    refine KW.loop (ι := Nat) (fun k => xs.length - k) (fun k => [(0, .slice A xs.length ca), (1, .slice B ys.length cb), (5, .int .i64 (k : Int))]) (fun k w => k ≤ xs.length ∧ xs.take k = ys.take k ∧ St w0 noS w []) 0 (by repeat (first | exact trivial | (refine ⟨by first | rfl | (congr 2; omega) | (simp; done) | (congr 1; simp; done), ?_⟩))) ?_ ?_
    · exact ⟨Nat.zero_le _, rfl, hs⟩
    clear hs
    rintro k w ⟨hk, he, hs⟩
    refine KW.seq ?_
    refine KW.seq ?_
    refine CW.region (S := noS) [(0, .q), (1, .q), (2, .q), (3, .q)] rfl ?_
    refine EW.move rfl rfl rfl rfl rfl rfl ?_
    refine EW.move rfl rfl rfl rfl rfl rfl ?_
    refine EW.len rfl rfl rfl rfl rfl rfl ?_
    refine EW.bin rfl rfl rfl rfl rfl rfl rfl BV.lss ?_
    refine EW.done ?_
    refine NW.seq ?_
    by_cases hlt : k < xs.length
    · refine CW.cond_t rfl (by simpa using hlt) ?_
      have hlt2 : k < ys.length := by omega
      obtain ⟨a1, rfl, _, hld1⟩ := (hx.stay hs.keep).at_ hlt
      obtain ⟨a2, rfl, _, hld2⟩ := (hy.stay hs.keep).at_ hlt2
      have g1 : LDP Tryz.prog w 44 (a1.add ((k : Int).toNat * 2)) (encL xs[k]) := hld1 k xs[k] (by simp)
      have g2 : LDP Tryz.prog w 44 (a2.add ((k : Int).toNat * 2)) (encL ys[k]) := hld2 k ys[k] (by simp)
      replace g1 := g1.keep (Keep.drew (S := noS) w) (fun h => h)
      replace g2 := g2.keep (Keep.drew (S := noS) w) (fun h => h)
      refine KW.skip ?_
      refine NW.seq ?_
      refine KW.seq ?_
      refine KW.block ?_
      refine KW.seq ?_
      refine CW.regionD (noS) [(0, .q), (1, .q), (2, .q), (3, .q), (4, .q), (5, .q), (6, .q), (7, .q), (8, .q)] mixed (by kernel_rfl) ?_
      replace hs := hs.drew
      refine EW.move rfl rfl rfl rfl rfl rfl ?_
      refine EW.move rfl rfl rfl rfl rfl rfl ?_
      refine EW.indexAddr rfl rfl rfl rfl rfl rfl rfl (by omega) (by omega) ?_
      refine EW.loadP rfl rfl rfl rfl rfl rfl (by first | assumption | (apply LDP.drew; assumption) | exact St.ld1 hs 0 rfl rfl | exact St.ldA hs 0 rfl rfl rfl | exact St.ld1 hs 1 rfl rfl | exact St.ldA hs 1 rfl rfl rfl | exact St.ld1 hs 2 rfl rfl | exact St.ldA hs 2 rfl rfl rfl | exact St.ld1 hs 3 rfl rfl | exact St.ldA hs 3 rfl rfl rfl | exact St.ld1 hs 4 rfl rfl | exact St.ldA hs 4 rfl rfl rfl | exact St.ld1 hs 5 rfl rfl | exact St.ldA hs 5 rfl rfl rfl | exact St.ld1 hs 6 rfl rfl | exact St.ldA hs 6 rfl rfl rfl) (by first | exact .inl rfl | exact .inr (fun h => h)) ?_
      refine EW.move rfl rfl rfl rfl rfl rfl ?_
      refine EW.move rfl rfl rfl rfl rfl rfl ?_
      refine EW.indexAddr rfl rfl rfl rfl rfl rfl rfl (by omega) (by omega) ?_
      refine EW.loadP rfl rfl rfl rfl rfl rfl (by first | assumption | (apply LDP.drew; assumption) | exact St.ld1 hs 0 rfl rfl | exact St.ldA hs 0 rfl rfl rfl | exact St.ld1 hs 1 rfl rfl | exact St.ldA hs 1 rfl rfl rfl | exact St.ld1 hs 2 rfl rfl | exact St.ldA hs 2 rfl rfl rfl | exact St.ld1 hs 3 rfl rfl | exact St.ldA hs 3 rfl rfl rfl | exact St.ld1 hs 4 rfl rfl | exact St.ldA hs 4 rfl rfl rfl | exact St.ld1 hs 5 rfl rfl | exact St.ldA hs 5 rfl rfl rfl | exact St.ld1 hs 6 rfl rfl | exact St.ldA hs 6 rfl rfl rfl) (by first | exact .inl rfl | exact .inr (fun h => h)) ?_
      refine EW.bin rfl rfl rfl rfl rfl rfl rfl (BVne44) ?_
      refine EW.done ?_
      refine NW.seq ?_
      refine KW.cond rfl (fun h2 => ?_) (fun h2 => ?_)
      · skip
        have h2' : xs[k] ≠ ys[k] := by simpa using h2
        refine KW.seq ?_
        refine CW.region (S := noS) [(0, .q)] rfl ?_
        refine EW.assign rfl rfl rfl rfl rfl rfl ?_
        refine EW.done ?_
        refine NW.seq ?_
        refine KW.ret1 rfl rfl ?_
        refine ⟨_, rfl, hs.keep, ?_⟩
        have : xs ≠ ys := fun h => h2' (by simp [h])
        simp [this]
      · skip
        have h2' : xs[k] = ys[k] := by simpa using h2
        refine KW.skip ?_
        refine NW.blk ?_
        refine NW.seq ?_
        refine CW.region (S := noS) [(0, .q), (1, .q), (2, .q)] rfl ?_
        refine EW.move rfl rfl rfl rfl rfl rfl ?_
        refine EW.bin rfl rfl rfl rfl rfl rfl rfl (BV.add (wrap_i64 (by omega) (by omega))) ?_
        refine EW.assign rfl rfl rfl rfl rfl rfl ?_
        refine EW.done ?_
        refine NW.again (k + 1) (by first | assumption | (dsimp only; omega) | omega | (simp; omega)) (by repeat (first | exact trivial | (refine ⟨by first | rfl | (congr 2; omega) | (simp; done) | (congr 1; simp; done), ?_⟩))) ?_
        try dsimp only
        refine ⟨hlt, ?_, hs⟩
        rw [List.take_add_one, List.take_add_one, he, List.getElem?_eq_getElem hlt, List.getElem?_eq_getElem hlt2, h2']
    · refine CW.cond_f rfl (by simpa using hlt) ?_
      have hke : k = xs.length := by omega
      subst hke
      rw [List.take_length, h1', List.take_length] at he
      refine KW.exit ?_
      refine XW.seq ?_
      refine XW.inv ?_
      refine XW.blk ?_
      refine NW.seq ?_
      refine KW.seq ?_
      refine CW.region (S := noS) [(0, .q)] rfl ?_
      refine EW.assign rfl rfl rfl rfl rfl rfl ?_
      refine EW.done ?_
      refine NW.seq ?_
      refine KW.ret1 rfl rfl ?_
      refine ⟨_, rfl, hs.keep, ?_⟩
      simp [he]
end Go.Cw.Tryz
set_option linter.unusedVariables false
set_option linter.unusedSimpArgs false
namespace Go.Cw.Tryz
open Go.Proofs Go.Cw Go.Shelf
attribute [local irreducible] Go.Addr.add
/-- Lists of labels that are read. -/
structure RowsA (w : World) (A : Option Addr) (ps : List (SV × List Lab)) : Prop where
  outer : SlA elP w A (ps.map (·.1))
  inner : ∀ p ∈ ps, SlA elL w p.1.1 p.2 ∧ p.1.2.1 = p.2.length
theorem RowsA.stay {w w' : World} {A : Option Addr} {ps : List (SV × List Lab)} (h : RowsA w A ps) (hk : Keep noS w w') : RowsA w' A ps :=
  ⟨h.outer.stay hk, fun p hp => ⟨(h.inner p hp).1.stay hk, (h.inner p hp).2⟩⟩
theorem RowsA.of {wc w : World} {Sc : Nat → Prop} {H : List Res} {A : Option Addr} {n c : Nat} {ps : List (SV × List Lab)} (hs : St wc Sc w H) (i j : Nat) (hi : H[i]? = some (own elP (.slice A n c) (ps.map (·.1)))) (hj : H[j]? = some (rows elL ps)) : RowsA w A ps :=
  ⟨hs.sl i hi, fun p hp => by
    obtain ⟨k, hk⟩ := List.mem_iff_getElem?.1 hp
    have := hs.rowSl j hj hk
    exact ⟨this.1, this.2.1⟩⟩
theorem sameAll_spec (w0 : World) (A B : Option Addr) (ca cb : Nat) (ps qs : List (SV × List Lab)) (hx : RowsA w0 A ps) (hy : RowsA w0 B qs) (hl : ps.length ≤ 1000000) (hl2 : qs.length ≤ 1000000) (hp : ∀ p ∈ ps, p.2.length ≤ 1000000) (hq : ∀ p ∈ qs, p.2.length ≤ 1000000) :
    T1 Tryz.prog 11 [.slice A ps.length ca, .slice B qs.length cb] w0 fun v w' => v = .bool (decide (ps.map (·.2) = qs.map (·.2))) := by
  refine KW.enterT1 (n := 27) Tryz.func11 rfl rfl rfl ?_
  have hs := St.init w0 noS
  refine KW.seq ?_
  refine CW.region (S := noS) [(0, .q)] rfl ?_
  refine EW.assign rfl rfl rfl rfl rfl rfl ?_
  refine EW.done ?_
  refine NW.seq ?_
  refine KW.seq ?_
  refine KW.seq ?_
  refine CW.region (S := noS) [(0, .q), (1, .q), (2, .q), (3, .q), (4, .q)] rfl ?_
  refine EW.move rfl rfl rfl rfl rfl rfl ?_
  refine EW.len rfl rfl rfl rfl rfl rfl ?_
  refine EW.move rfl rfl rfl rfl rfl rfl ?_
  refine EW.len rfl rfl rfl rfl rfl rfl ?_
  refine EW.bin rfl rfl rfl rfl rfl rfl rfl BV.nei ?_
  refine EW.done ?_
  refine NW.seq ?_
  refine KW.cond rfl (fun h1 => ?_) (fun h1 => ?_)
  · skip
    refine KW.seq ?_
    refine CW.region (S := noS) [(0, .q)] rfl ?_
    refine EW.assign rfl rfl rfl rfl rfl rfl ?_
    refine EW.done ?_
    refine NW.seq ?_
    refine KW.ret1 rfl rfl ?_
    refine ⟨_, rfl, hs.keep, ?_⟩
    have h1' : ps.map (·.2) ≠ qs.map (·.2) := fun h => by
      have := congrArg List.length h
      simp at this
      simp [this] at h1
    simp [h1']
  · skip
    have h1' : ps.length = qs.length := by simp at h1; omega
    refine KW.skip ?_
    refine NW.seq ?_
    refine KW.seq ?_
    refine KW.seq ?_
    refine CW.region (S := noS) [(0, .q)] rfl ?_
    refine EW.assign rfl rfl rfl rfl rfl rfl ?_
    refine EW.done ?_
    refine NW.seq ?_
    refine KW.block ?_
    refine KW.loop (ι := Nat) (fun k => ps.length - k) (fun k => [(0, .slice A ps.length ca), (1, .slice B qs.length cb), (5, .int .i64 (k : Int))]) (fun k w => k ≤ ps.length ∧ (ps.map (·.2)).take k = (qs.map (·.2)).take k ∧ St w0 noS w []) 0 (by repeat (first | exact trivial | (refine ⟨by first | rfl | (congr 2; omega) | (simp; done) | (congr 1; simp; done), ?_⟩))) ?_ ?_
    · exact ⟨Nat.zero_le _, rfl, hs⟩
    clear hs
    rintro k w ⟨hk, he, hs⟩
    refine KW.seq ?_
    refine KW.seq ?_
    refine CW.region (S := noS) [(0, .q), (1, .q), (2, .q), (3, .q)] rfl ?_
    refine EW.move rfl rfl rfl rfl rfl rfl ?_
    refine EW.move rfl rfl rfl rfl rfl rfl ?_
    refine EW.len rfl rfl rfl rfl rfl rfl ?_
    refine EW.bin rfl rfl rfl rfl rfl rfl rfl BV.lss ?_
    refine EW.done ?_
    refine NW.seq ?_
    by_cases hlt : k < ps.length
    · refine CW.cond_t rfl (by simpa using hlt) ?_
      have hlt2 : k < qs.length := by omega
      obtain ⟨⟨⟨A1, n1, c1⟩, xs⟩, hpk⟩ : ∃ p, ps[k]? = some p := ⟨ps[k], by simp⟩
      obtain ⟨⟨⟨A2, n2, c2⟩, ys⟩, hqk⟩ : ∃ p, qs[k]? = some p := ⟨qs[k], by simp⟩
      obtain ⟨hs1, hn1⟩ := hx.inner _ (List.mem_of_getElem? hpk)
      obtain ⟨hs2, hn2⟩ := hy.inner _ (List.mem_of_getElem? hqk)
      have hb1 := hp _ (List.mem_of_getElem? hpk)
      have hb2 := hq _ (List.mem_of_getElem? hqk)
      dsimp only at hs1 hn1 hs2 hn2 hb1 hb2
      subst hn1 hn2
      obtain ⟨a1, rfl, _, hld1⟩ := (hx.outer.stay hs.keep).at_ (i := k) (by simpa using hlt)
      obtain ⟨a2, rfl, _, hld2⟩ := (hy.outer.stay hs.keep).at_ (i := k) (by simpa using hlt2)
      have g1 : LDP Tryz.prog w 30 (a1.add ((k : Int).toNat * 1)) (.slice A1 xs.length c1) := hld1 k (A1, xs.length, c1) (by rw [List.getElem?_map, hpk]; rfl)
      have g2 : LDP Tryz.prog w 30 (a2.add ((k : Int).toNat * 1)) (.slice A2 ys.length c2) := hld2 k (A2, ys.length, c2) (by rw [List.getElem?_map, hqk]; rfl)
      replace g1 := g1.keep (Keep.drew (S := noS) w) (fun h => h)
      replace g2 := g2.keep (Keep.drew (S := noS) w) (fun h => h)
      have ek : ∀ l : List (SV × List Lab), ∀ p, l[k]? = some p → (l.map (·.2)).take (k + 1) = (l.map (·.2)).take k ++ [p.2] := fun l p h => by
        rw [List.take_add_one, List.getElem?_map, h]; rfl
      refine KW.skip ?_
      refine NW.seq ?_
      refine KW.seq ?_
      refine KW.block ?_
      refine KW.seq ?_
      refine CW.regionD (noS) [(0, .q), (1, .q), (2, .q), (3, .q), (4, .q), (5, .q), (6, .q), (7, .q), (8, .l), (9, .q)] mixed (by kernel_rfl) ?_
      replace hs := hs.drew
      refine EW.move rfl rfl rfl rfl rfl rfl ?_
      refine EW.move rfl rfl rfl rfl rfl rfl ?_
      refine EW.indexAddr rfl rfl rfl rfl rfl rfl rfl (by omega) (by omega) ?_
      refine EW.loadP rfl rfl rfl rfl rfl rfl (by first | assumption | (apply LDP.drew; assumption) | exact St.ld1 hs 0 rfl rfl | exact St.ldA hs 0 rfl rfl rfl | exact St.ld1 hs 1 rfl rfl | exact St.ldA hs 1 rfl rfl rfl | exact St.ld1 hs 2 rfl rfl | exact St.ldA hs 2 rfl rfl rfl | exact St.ld1 hs 3 rfl rfl | exact St.ldA hs 3 rfl rfl rfl | exact St.ld1 hs 4 rfl rfl | exact St.ldA hs 4 rfl rfl rfl | exact St.ld1 hs 5 rfl rfl | exact St.ldA hs 5 rfl rfl rfl | exact St.ld1 hs 6 rfl rfl | exact St.ldA hs 6 rfl rfl rfl) (by first | exact .inl rfl | exact .inr (fun h => h)) ?_
      refine EW.move rfl rfl rfl rfl rfl rfl ?_
      refine EW.move rfl rfl rfl rfl rfl rfl ?_
      refine EW.indexAddr rfl rfl rfl rfl rfl rfl rfl (by omega) (by omega) ?_
      refine EW.loadP rfl rfl rfl rfl rfl rfl (by first | assumption | (apply LDP.drew; assumption) | exact St.ld1 hs 0 rfl rfl | exact St.ldA hs 0 rfl rfl rfl | exact St.ld1 hs 1 rfl rfl | exact St.ldA hs 1 rfl rfl rfl | exact St.ld1 hs 2 rfl rfl | exact St.ldA hs 2 rfl rfl rfl | exact St.ld1 hs 3 rfl rfl | exact St.ldA hs 3 rfl rfl rfl | exact St.ld1 hs 4 rfl rfl | exact St.ldA hs 4 rfl rfl rfl | exact St.ld1 hs 5 rfl rfl | exact St.ldA hs 5 rfl rfl rfl | exact St.ld1 hs 6 rfl rfl | exact St.ldA hs 6 rfl rfl rfl) (by first | exact .inl rfl | exact .inr (fun h => h)) ?_
      refine EW.callT1 (same_spec _ A1 A2 c1 c2 xs ys (hs1.stay hs.keep) (hs2.stay hs.keep) (by omega) (by omega)) rfl rfl rfl rfl rfl Tryz.func13 bd13 nm13 rfl ?_
      intro v25 w hk25 hp25
      subst hp25
      replace hs := hs.stay hk25
      refine EW.not rfl rfl rfl rfl rfl rfl ?_
      refine EW.done ?_
      refine NW.seq ?_
      refine KW.cond rfl (fun h2 => ?_) (fun h2 => ?_)
      · skip
        have h2' : xs ≠ ys := by simpa using h2
        refine KW.seq ?_
        refine CW.region (S := noS) [(0, .q)] rfl ?_
        refine EW.assign rfl rfl rfl rfl rfl rfl ?_
        refine EW.done ?_
        refine NW.seq ?_
        refine KW.ret1 rfl rfl ?_
        refine ⟨_, rfl, hs.keep, ?_⟩
        have : ps.map (·.2) ≠ qs.map (·.2) := fun h => h2' (by
          have h3 := congrArg (fun l : List (List Lab) => l[k]?) h
          simp only [List.getElem?_map, hpk, hqk, Option.map_some, Option.some.injEq] at h3
          exact h3)
        simp [this]
      · skip
        have h2' : xs = ys := by simpa using h2
        refine KW.skip ?_
        refine NW.blk ?_
        refine NW.seq ?_
        refine CW.region (S := noS) [(0, .q), (1, .q), (2, .q)] rfl ?_
        refine EW.move rfl rfl rfl rfl rfl rfl ?_
        refine EW.bin rfl rfl rfl rfl rfl rfl rfl (BV.add (wrap_i64 (by omega) (by omega))) ?_
        refine EW.assign rfl rfl rfl rfl rfl rfl ?_
        refine EW.done ?_
        refine NW.again (k + 1) (by first | assumption | (dsimp only; omega) | omega | (simp; omega)) (by repeat (first | exact trivial | (refine ⟨by first | rfl | (congr 2; omega) | (simp; done) | (congr 1; simp; done), ?_⟩))) ?_
        try dsimp only
        refine ⟨hlt, ?_, hs⟩
        rw [ek ps _ hpk, ek qs _ hqk, he, h2']
    · refine CW.cond_f rfl (by simpa using hlt) ?_
      have hke : k = ps.length := by omega
      subst hke
      rw [List.take_of_length_le (by simp), List.take_of_length_le (by simp; omega)] at he
      refine KW.exit ?_
      refine XW.seq ?_
      refine XW.inv ?_
      refine XW.blk ?_
      refine NW.seq ?_
      refine KW.seq ?_
      refine CW.region (S := noS) [(0, .q)] rfl ?_
      refine EW.assign rfl rfl rfl rfl rfl rfl ?_
      refine EW.done ?_
      refine NW.seq ?_
      refine KW.ret1 rfl rfl ?_
      refine ⟨_, rfl, hs.keep, ?_⟩
      simp [he]
end Go.Cw.Tryz
set_option linter.unusedVariables false
set_option linter.unusedSimpArgs false
namespace Go.Cw.Tryz
open Go.Proofs Go.Cw Go.Shelf
attribute [local irreducible] Go.Addr.add
theorem build44n (s : ByteArray) : ∀ w, (Instr.build 44 [(1, .string s)].toArray).run Tryz.prog w = .ok (.agg #[.string ByteArray.empty, .string s]) w := fun w => by kernel_rfl
theorem n_spec (w0 : World) (s : ByteArray) : T1 Tryz.prog 25 [.string s] w0 fun v w' => v = encL ⟨ByteArray.empty, s⟩ := by
  refine KW.enterT1 (n := 5) Tryz.func25 rfl rfl rfl ?_
  have hs := St.init w0 noS
  refine KW.seq ?_
  refine CW.region (S := noS) [(0, .l)] rfl ?_
  refine EW.alloc (z := .agg #[.string ByteArray.empty, .string ByteArray.empty]) hs rfl rfl rfl rfl rfl (by kernel_rfl) ?_
  clear hs; intro b2 w hs; dsimp only [Value.cells] at hs
  refine EW.done ?_
  refine NW.seq ?_
  refine KW.seq ?_
  refine CW.region (S := noS) [(0, .q), (1, .q), (2, .l)] rfl ?_
  refine EW.move rfl rfl rfl rfl rfl rfl ?_
  refine EW.build (α := Unit) (pv := [(1, .string s)]) rfl rfl rfl rfl rfl rfl rfl (build44n s) ?_
  first | refine EW.store hs 0 rfl rfl rfl rfl rfl rfl rfl rfl rfl (by simp [Value.oneCell', Value.cells]) rfl (.inl rfl) ?_ | refine EW.store hs 1 rfl rfl rfl rfl rfl rfl rfl rfl rfl (by simp [Value.oneCell', Value.cells]) rfl (.inl rfl) ?_ | refine EW.store hs 2 rfl rfl rfl rfl rfl rfl rfl rfl rfl (by simp [Value.oneCell', Value.cells]) rfl (.inl rfl) ?_ | refine EW.store hs 3 rfl rfl rfl rfl rfl rfl rfl rfl rfl (by simp [Value.oneCell', Value.cells]) rfl (.inl rfl) ?_ | refine EW.store hs 4 rfl rfl rfl rfl rfl rfl rfl rfl rfl (by simp [Value.oneCell', Value.cells]) rfl (.inl rfl) ?_ | refine EW.store hs 5 rfl rfl rfl rfl rfl rfl rfl rfl rfl (by simp [Value.oneCell', Value.cells]) rfl (.inl rfl) ?_ | refine EW.store hs 6 rfl rfl rfl rfl rfl rfl rfl rfl rfl (by simp [Value.oneCell', Value.cells]) rfl (.inl rfl) ?_
  clear hs; intro w hs; dsimp only [List.set, setAt] at hs
  refine EW.done ?_
  refine NW.seq ?_
  refine KW.retCell rfl rfl (by first | assumption | (apply LDP.drew; assumption) | exact St.ld1 hs 0 rfl rfl | exact St.ldA hs 0 rfl rfl rfl | exact St.ld1 hs 1 rfl rfl | exact St.ldA hs 1 rfl rfl rfl | exact St.ld1 hs 2 rfl rfl | exact St.ldA hs 2 rfl rfl rfl | exact St.ld1 hs 3 rfl rfl | exact St.ldA hs 3 rfl rfl rfl | exact St.ld1 hs 4 rfl rfl | exact St.ldA hs 4 rfl rfl rfl | exact St.ld1 hs 5 rfl rfl | exact St.ldA hs 5 rfl rfl rfl | exact St.ld1 hs 6 rfl rfl | exact St.ldA hs 6 rfl rfl rfl) ?_
  refine ⟨_, rfl, hs.keep, ?_⟩
  rfl
end Go.Cw.Tryz
set_option linter.unusedVariables false
set_option linter.unusedSimpArgs false
namespace Go.Cw.Tryz
open Go.Proofs Go.Cw Go.Shelf
attribute [local irreducible] Go.Addr.add
/-- Rows of places. -/
def elO : El Tryz.prog SV := {
  ty := 60
  size := 1
  bytes := 24
  enc := fun s => svV s
  zero := .slice none 0 0
  info := by kernel_rfl
  zsize := rfl
  pos := by decide
  posb := by decide
  cells := fun _ => rfl
  one := fun x u hu => by
    obtain rfl : u = svV x := by simpa [Value.cells, svV] using hu
    rfl
  ld := fun w p x h => LD.one (by simpa [Addr.add] using h 0 (svV x) rfl) }
theorem build62 (A : Option Addr) (n c : Nat) : ∀ w, (Instr.build 62 [(0, .slice A n c)].toArray).run Tryz.prog w = .ok (.agg #[.slice A n c, .slice none 0 0, .slice none 0 0, .slice none 0 0, .slice none 0 0, .slice none 0 0, .int .i64 0, .slice none 0 0]) w := fun w => by kernel_rfl
theorem ht64 : Tryz.prog.underlying 64 = some (.map KL.ty 3) := by kernel_rfl
theorem hz3 : (Tryz.prog.info? 3).map (·.zero) = some (some (.int .i64 0)) := by kernel_rfl
/-- A map from labels to their places. -/
def kvPl (l : List Lab) : List (Lab × Value) := l.zipIdx.map fun p => (p.1, .int .i64 ((p.2 : Nat) : Int))
theorem getM_pl (l : List Lab) (a : Lab) (v : Value) : ∀ s, getM (l.zipIdx s |>.map fun p => (p.1, Value.int .i64 ((p.2 : Nat) : Int))) a = if a ∈ l then some (.int .i64 ((s + l.idxOf a : Nat) : Int)) else none := by
  induction l with
  | nil => intro s; rfl
  | cons x r ih =>
    intro s
    rw [List.zipIdx_cons, List.map_cons, getM]
    by_cases h : a = x
    · subst h; simp
    · rw [if_neg h, ih (s + 1), List.idxOf_cons]
      have hb : (x == a) = false := by simpa using fun e : x = a => h e.symm
      rw [hb]
      by_cases hm : a ∈ r
      · rw [if_pos hm, if_pos (by simp [hm])]
        simp only [cond_false]
        congr 3; omega
      · rw [if_neg hm, if_neg (by simp [hm, h])]
end Go.Cw.Tryz
