/- Proved here, as a part of the claim: how the code of the program walks (CwAR, CwAS, CwAT, CwAU). -/
import Derived.Test.YtbnjfehippbbfaaGreatDoorGg
set_option linter.unusedVariables false
set_option linter.unusedSimpArgs false
namespace Go.Cw.Tryz
open Go.Proofs Go.Cw Go.Shelf Go.Sort
attribute [local irreducible] Go.Addr.add
/-- Does each edge from a lead to one that is told? -/
def readyB (E : List Edg) (a : Lab) (told : List Lab) : Bool := E.all fun e => !(decide (e.1 = a) && !decide (e.2 ∈ told))
theorem readyB_iff (E : List Edg) (a : Lab) (told : List Lab) : readyB E a told = true ↔ ∀ e ∈ E, e.1 = a → e.2 ∈ told := by
  simp only [readyB, List.all_eq_true, Bool.not_eq_true', Bool.and_eq_false_iff, decide_eq_false_iff_not, Bool.not_eq_false', decide_eq_true_eq]
  exact ⟨fun h e he h1 => (h e he).resolve_left (fun h2 => h2 h1), fun h e he => by
    by_cases h1 : e.1 = a
    · exact .inr (h e he h1)
    · exact .inl h1⟩
theorem ready_spec (w0 : World) (b : Nat) (AN : Option Addr) (cN : Nat) (AE : Option Addr) (cE : Nat) (g : RG) (a : Lab) (B : Option Addr) (cB : Nat) (told : List Lab) (hg : RGA w0 b AN cN AE cE g) (hsm : g.Sm 1000) (ht : SlA elL w0 B told) (htl : told.length ≤ 1048576) :
    T1 Tryz.prog 41 [.pointer (some ⟨b, 0, none⟩), encL a, .slice B told.length cB] w0 fun v w' => v = .bool (readyB g.E a told) := by
  refine KW.enterT1 (n := 40) Tryz.func41 rfl rfl rfl ?_
  have hs := St.init w0 noS
  have hgE : ∀ w, Keep noS w0 w → _ := fun w hk => hg.ldE hk
  have hel := hsm.e
  refine KW.seq ?_
  refine CW.region (S := noS) [(0, .l), (1, .q)] rfl ?_
  refine EW.box hs rfl rfl rfl rfl rfl rfl ?_
  clear hs; intro b4 w hs
  refine EW.assign rfl rfl rfl rfl rfl rfl ?_
  refine EW.done ?_
  refine NW.seq ?_
  refine KW.seq ?_
  refine KW.seq ?_
  refine CW.region (S := noS) [(0, .q)] rfl ?_
  refine EW.assign rfl rfl rfl rfl rfl rfl ?_
  refine EW.done ?_
  refine NW.seq ?_
  refine KW.block ?_
  refine KW.loop (ι := Nat) (fun i => g.E.length - i) (fun i => [(0, .pointer (some ⟨b, 0, none⟩)), (2, .slice B told.length cB), (4, .pointer (some ⟨b4, 0, none⟩)), (7, .int .i64 (i : Int))]) (fun i w => i ≤ g.E.length ∧ (∀ e ∈ g.E.take i, e.1 = a → e.2 ∈ told) ∧ St w0 noS w [pt b4 (.cells (encL a).cells 44)]) 0 (by repeat (first | exact trivial | (refine ⟨by first | rfl | (congr 2; omega) | (simp; done) | (congr 1; simp; done), ?_⟩))) ?_ ?_
  · exact ⟨Nat.zero_le _, by simp, hs⟩
  clear hs
  rintro k w ⟨hk, hall, hs⟩
  refine KW.seq ?_
  refine KW.seq ?_
  refine CW.region (S := noS) [(0, .q), (1, .q), (2, .q), (3, .q), (4, .q), (5, .q), (6, .q)] rfl ?_
  refine EW.move rfl rfl rfl rfl rfl rfl ?_
  refine EW.move rfl rfl rfl rfl rfl rfl ?_
  refine EW.nilCheck rfl rfl rfl rfl rfl rfl ?_
  first | refine EW.fieldAddr rfl rfl rfl rfl rfl rfl ?_ | refine EW.fieldAddrA rfl rfl rfl rfl rfl rfl ?_
  refine EW.loadP rfl rfl rfl rfl rfl rfl (by first | with_reducible exact hgE _ hs.keep | assumption | (apply LDP.drew; assumption) | exact St.ld1 hs 0 rfl rfl | exact St.ldA hs 0 rfl rfl rfl | exact St.ld1 hs 1 rfl rfl | exact St.ldA hs 1 rfl rfl rfl | exact St.ld1 hs 2 rfl rfl | exact St.ldA hs 2 rfl rfl rfl | exact St.ld1 hs 3 rfl rfl | exact St.ldA hs 3 rfl rfl rfl | exact St.ld1 hs 4 rfl rfl | exact St.ldA hs 4 rfl rfl rfl | exact St.ld1 hs 5 rfl rfl | exact St.ldA hs 5 rfl rfl rfl | exact St.ld1 hs 6 rfl rfl | exact St.ldA hs 6 rfl rfl rfl) (by first | exact .inl rfl | exact .inr (fun h => h)) ?_
  refine EW.len rfl rfl rfl rfl rfl rfl ?_
  refine EW.bin rfl rfl rfl rfl rfl rfl rfl BV.lss ?_
  refine EW.done ?_
  refine NW.seq ?_
  by_cases hlt : k < g.E.length
  · refine CW.cond_t rfl (by simpa using hlt) ?_
    obtain ⟨ae, rfl⟩ := hg.some_ hlt
    have hxk : g.E[k]? = some g.E[k] := by simp
    have h1 : ∀ w, Keep noS w0 w → _ := fun w hk => hg.ld1 hk hxk
    have h2 : ∀ w, Keep noS w0 w → _ := fun w hk => hg.ld2 hk hxk
    have htk : ∀ e ∈ g.E.take (k + 1), e ∈ g.E.take k ∨ e = g.E[k] := fun e he => by
      rw [List.take_succ_eq_append_getElem hlt, List.mem_append, List.mem_singleton] at he; exact he
    refine KW.skip ?_
    refine NW.seq ?_
    refine KW.seq ?_
    refine KW.block ?_
    refine KW.seq ?_
    refine CW.regionD (noS) [(0, .q), (1, .q), (2, .q), (3, .q), (4, .q), (5, .q), (6, .q), (7, .q), (8, .q), (9, .q), (10, .q), (11, .q), (12, .q), (13, .q), (14, .q), (15, .q), (16, .q), (17, .q), (18, .q), (19, .q), (20, .l), (21, .q), (22, .q)] mixed (by kernel_rfl) ?_
    replace hs := hs.drew
    refine EW.move rfl rfl rfl rfl rfl rfl ?_
    refine EW.nilCheck rfl rfl rfl rfl rfl rfl ?_
    first | refine EW.fieldAddr rfl rfl rfl rfl rfl rfl ?_ | refine EW.fieldAddrA rfl rfl rfl rfl rfl rfl ?_
    refine EW.loadP rfl rfl rfl rfl rfl rfl (by first | with_reducible exact hgE _ hs.keep | with_reducible exact h1 _ hs.keep | with_reducible exact h2 _ hs.keep | assumption | (apply LDP.drew; assumption) | exact St.ld1 hs 0 rfl rfl | exact St.ldA hs 0 rfl rfl rfl | exact St.ld1 hs 1 rfl rfl | exact St.ldA hs 1 rfl rfl rfl | exact St.ld1 hs 2 rfl rfl | exact St.ldA hs 2 rfl rfl rfl | exact St.ld1 hs 3 rfl rfl | exact St.ldA hs 3 rfl rfl rfl | exact St.ld1 hs 4 rfl rfl | exact St.ldA hs 4 rfl rfl rfl | exact St.ld1 hs 5 rfl rfl | exact St.ldA hs 5 rfl rfl rfl | exact St.ld1 hs 6 rfl rfl | exact St.ldA hs 6 rfl rfl rfl) (by first | exact .inl rfl | exact .inr (fun h => h)) ?_
    refine EW.move rfl rfl rfl rfl rfl rfl ?_
    refine EW.indexAddr rfl rfl rfl rfl rfl rfl rfl (by omega) (by omega) ?_
    first | refine EW.fieldAddr rfl rfl rfl rfl rfl rfl ?_ | refine EW.fieldAddrA rfl rfl rfl rfl rfl rfl ?_
    refine EW.loadP rfl rfl rfl rfl rfl rfl (by first | with_reducible exact hgE _ hs.keep | with_reducible exact h1 _ hs.keep | with_reducible exact h2 _ hs.keep | assumption | (apply LDP.drew; assumption) | exact St.ld1 hs 0 rfl rfl | exact St.ldA hs 0 rfl rfl rfl | exact St.ld1 hs 1 rfl rfl | exact St.ldA hs 1 rfl rfl rfl | exact St.ld1 hs 2 rfl rfl | exact St.ldA hs 2 rfl rfl rfl | exact St.ld1 hs 3 rfl rfl | exact St.ldA hs 3 rfl rfl rfl | exact St.ld1 hs 4 rfl rfl | exact St.ldA hs 4 rfl rfl rfl | exact St.ld1 hs 5 rfl rfl | exact St.ldA hs 5 rfl rfl rfl | exact St.ld1 hs 6 rfl rfl | exact St.ldA hs 6 rfl rfl rfl) (by first | exact .inl rfl | exact .inr (fun h => h)) ?_
    refine EW.loadP rfl rfl rfl rfl rfl rfl (by first | with_reducible exact hgE _ hs.keep | with_reducible exact h1 _ hs.keep | with_reducible exact h2 _ hs.keep | assumption | (apply LDP.drew; assumption) | exact St.ld1 hs 0 rfl rfl | exact St.ldA hs 0 rfl rfl rfl | exact St.ld1 hs 1 rfl rfl | exact St.ldA hs 1 rfl rfl rfl | exact St.ld1 hs 2 rfl rfl | exact St.ldA hs 2 rfl rfl rfl | exact St.ld1 hs 3 rfl rfl | exact St.ldA hs 3 rfl rfl rfl | exact St.ld1 hs 4 rfl rfl | exact St.ldA hs 4 rfl rfl rfl | exact St.ld1 hs 5 rfl rfl | exact St.ldA hs 5 rfl rfl rfl | exact St.ld1 hs 6 rfl rfl | exact St.ldA hs 6 rfl rfl rfl) (by first | exact .inl rfl | exact .inr (fun h => h)) ?_
    refine EW.bin rfl rfl rfl rfl rfl rfl rfl (BVeq44) ?_
    refine EW.move rfl rfl rfl rfl rfl rfl ?_
    refine EW.caseB (fun heq => ?_) (fun heq => ?_)
    · skip
      have heq' : g.E[k].1 = a := by simpa using heq
      refine EW.move rfl rfl rfl rfl rfl rfl ?_
      refine EW.move rfl rfl rfl rfl rfl rfl ?_
      refine EW.nilCheck rfl rfl rfl rfl rfl rfl ?_
      first | refine EW.fieldAddr rfl rfl rfl rfl rfl rfl ?_ | refine EW.fieldAddrA rfl rfl rfl rfl rfl rfl ?_
      refine EW.loadP rfl rfl rfl rfl rfl rfl (by first | with_reducible exact hgE _ hs.keep | with_reducible exact h1 _ hs.keep | with_reducible exact h2 _ hs.keep | assumption | (apply LDP.drew; assumption) | exact St.ld1 hs 0 rfl rfl | exact St.ldA hs 0 rfl rfl rfl | exact St.ld1 hs 1 rfl rfl | exact St.ldA hs 1 rfl rfl rfl | exact St.ld1 hs 2 rfl rfl | exact St.ldA hs 2 rfl rfl rfl | exact St.ld1 hs 3 rfl rfl | exact St.ldA hs 3 rfl rfl rfl | exact St.ld1 hs 4 rfl rfl | exact St.ldA hs 4 rfl rfl rfl | exact St.ld1 hs 5 rfl rfl | exact St.ldA hs 5 rfl rfl rfl | exact St.ld1 hs 6 rfl rfl | exact St.ldA hs 6 rfl rfl rfl) (by first | exact .inl rfl | exact .inr (fun h => h)) ?_
      refine EW.move rfl rfl rfl rfl rfl rfl ?_
      refine EW.indexAddr rfl rfl rfl rfl rfl rfl rfl (by omega) (by omega) ?_
      first | refine EW.fieldAddr rfl rfl rfl rfl rfl rfl ?_ | refine EW.fieldAddrA rfl rfl rfl rfl rfl rfl ?_
      refine EW.loadP rfl rfl rfl rfl rfl rfl (by first | with_reducible exact hgE _ hs.keep | with_reducible exact h1 _ hs.keep | with_reducible exact h2 _ hs.keep | assumption | (apply LDP.drew; assumption) | exact St.ld1 hs 0 rfl rfl | exact St.ldA hs 0 rfl rfl rfl | exact St.ld1 hs 1 rfl rfl | exact St.ldA hs 1 rfl rfl rfl | exact St.ld1 hs 2 rfl rfl | exact St.ldA hs 2 rfl rfl rfl | exact St.ld1 hs 3 rfl rfl | exact St.ldA hs 3 rfl rfl rfl | exact St.ld1 hs 4 rfl rfl | exact St.ldA hs 4 rfl rfl rfl | exact St.ld1 hs 5 rfl rfl | exact St.ldA hs 5 rfl rfl rfl | exact St.ld1 hs 6 rfl rfl | exact St.ldA hs 6 rfl rfl rfl) (by first | exact .inl rfl | exact .inr (fun h => h)) ?_
      refine EW.callT1 (In_spec _ _ _ _ _ (ht.stay hs.keep) (by omega)) rfl rfl rfl rfl rfl Tryz.func22 bd22 nm22 rfl ?_
      intro v37 w hk37 hp37
      subst hp37
      replace hs := hs.stay hk37
      refine EW.not rfl rfl rfl rfl rfl rfl ?_
      refine EW.pick rfl rfl rfl rfl rfl rfl rfl ?_
      refine EW.done ?_
      refine NW.seq ?_
      refine KW.cond rfl (fun hin => ?_) (fun hin => ?_)
      · skip
        refine KW.seq ?_
        refine CW.region (S := noS) [(0, .q)] rfl ?_
        refine EW.assign rfl rfl rfl rfl rfl rfl ?_
        refine EW.done ?_
        refine NW.seq ?_
        refine KW.ret1 rfl rfl ?_
        refine ⟨_, rfl, hs.keep, ?_⟩
        have : g.E[k].2 ∉ told := by simpa using hin
        have h3 : readyB g.E a told = false := by
          cases hr : readyB g.E a told with
          | false => rfl
          | true => exact absurd ((readyB_iff _ _ _).1 hr _ (List.getElem_mem hlt) heq') this
        rw [h3]
      · skip
        have hin' : g.E[k].2 ∈ told := by simpa using hin
        refine KW.skip ?_
        refine NW.blk ?_
        refine NW.seq ?_
        refine CW.region (S := noS) [(0, .q), (1, .q), (2, .q)] rfl ?_
        refine EW.move rfl rfl rfl rfl rfl rfl ?_
        refine EW.bin rfl rfl rfl rfl rfl rfl rfl (BV.add (wrap_i64 (by omega) (by omega))) ?_
        refine EW.assign rfl rfl rfl rfl rfl rfl ?_
        refine EW.done ?_
        refine NW.again (k + 1) (by first | assumption | (dsimp only; omega) | omega | (simp; omega)) (by repeat (first | exact trivial | (refine ⟨by first | rfl | (congr 2; omega) | (simp; done) | (congr 1; simp; done), ?_⟩))) ?_
        try dsimp only
        refine ⟨hlt, fun e he h => ?_, hs⟩
        rcases htk e he with h3 | h3
        · exact hall e h3 h
        · rw [h3]; exact hin'
    · skip
      have heq' : ¬ g.E[k].1 = a := by simpa using heq
      refine EW.off rfl rfl rfl rfl ?_
      refine EW.off rfl rfl rfl rfl ?_
      refine EW.off rfl rfl rfl rfl ?_
      refine EW.off rfl rfl rfl rfl ?_
      refine EW.off rfl rfl rfl rfl ?_
      refine EW.off rfl rfl rfl rfl ?_
      refine EW.off rfl rfl rfl rfl ?_
      refine EW.off rfl rfl rfl rfl ?_
      refine EW.off rfl rfl rfl rfl ?_
      refine EW.off rfl rfl rfl rfl ?_
      refine EW.off rfl rfl rfl rfl ?_
      refine EW.pick rfl rfl rfl rfl rfl rfl rfl ?_
      refine EW.done ?_
      refine NW.seq ?_
      refine CW.cond_f rfl (rfl) ?_
      refine KW.skip ?_
      refine NW.blk ?_
      refine NW.seq ?_
      refine CW.region (S := noS) [(0, .q), (1, .q), (2, .q)] rfl ?_
      refine EW.move rfl rfl rfl rfl rfl rfl ?_
      refine EW.bin rfl rfl rfl rfl rfl rfl rfl (BV.add (wrap_i64 (by omega) (by omega))) ?_
      refine EW.assign rfl rfl rfl rfl rfl rfl ?_
      refine EW.done ?_
      refine NW.again (k + 1) (by first | assumption | (dsimp only; omega) | omega | (simp; omega)) (by repeat (first | exact trivial | (refine ⟨by first | rfl | (congr 2; omega) | (simp; done) | (congr 1; simp; done), ?_⟩))) ?_
      try dsimp only
      refine ⟨hlt, fun e he h => ?_, hs⟩
      rcases htk e he with h3 | h3
      · exact hall e h3 h
      · rw [h3] at h; exact absurd h heq'
  · refine CW.cond_f rfl (by simpa using hlt) ?_
    have hk' : k = g.E.length := by omega
    subst hk'
    rw [List.take_length] at hall
    refine KW.exit ?_
    refine XW.seq ?_
    refine XW.inv ?_
    refine XW.blk ?_
    refine NW.seq ?_
    refine KW.seq ?_
    refine CW.region (S := noS) [(0, .q)] rfl ?_
    refine EW.assign rfl rfl rfl rfl rfl rfl ?_
    refine EW.done ?_
    refine NW.seq ?_
    refine KW.ret1 rfl rfl ?_
    refine ⟨_, rfl, hs.keep, ?_⟩
    rw [(readyB_iff _ _ _).2 hall]
end Go.Cw.Tryz
set_option linter.unusedVariables false
set_option linter.unusedSimpArgs false
namespace Go.Cw.Tryz
open Go.Proofs Go.Cw Go.Shelf Go.Sort
attribute [local irreducible] Go.Addr.add
theorem find_at {α : Type} (p : α → Bool) : ∀ (l : List α) (k : Nat) (hk : k < l.length), (∀ a ∈ l.take k, p a = false) → p l[k] = true → l.find? p = some l[k]
  | [], k, hk, _, _ => by simp at hk
  | x :: r, 0, hk, _, h => by
    have h' : p x = true := h
    simp [List.find?_cons, h']
  | x :: r, k + 1, hk, hn, h => by
    have hx : p x = false := hn x (by simp)
    rw [List.find?_cons, hx]
    exact find_at p r k (by simpa using hk) (fun a ha => hn a (by simp [ha])) h
/-- The next that may be told. -/
def nextL (E : List Edg) (all out : List Lab) : Option Lab := all.find? fun a => !decide (a ∈ out) && readyB E a out
/-- What is told behind so many rounds. -/
def outIt (E : List Edg) (all : List Lab) : Nat → Option (List Lab)
  | 0 => some []
  | k + 1 => match outIt E all k with
    | some out => (nextL E all out).map (fun a => out ++ [a])
    | none => none
def orderL (E : List Edg) (all : List Lab) : List Lab × Bool := match outIt E all all.length with
  | some out => (out, true)
  | none => ([], false)
theorem outIt_len (E : List Edg) (all : List Lab) : ∀ (k : Nat) (out : List Lab), outIt E all k = some out → out.length = k := by
  intro k
  induction k with
  | zero => intro out h; simp only [outIt, Option.some.injEq] at h; subst h; rfl
  | succ k ih =>
    intro out h
    unfold outIt at h
    split at h
    · rename_i o ho
      obtain ⟨a, _, rfl⟩ := Option.map_eq_some_iff.1 h
      simp [ih o ho]
    · cases h
theorem outIt_none (E : List Edg) (all : List Lab) {k : Nat} (h : outIt E all k = none) : ∀ j, k ≤ j → outIt E all j = none := by
  intro j
  induction j with
  | zero => intro hj; obtain rfl : k = 0 := by omega
            exact h
  | succ j ih =>
    intro hj
    rcases Nat.eq_or_lt_of_le hj with h1 | h1
    · rw [← h1]; exact h
    · unfold outIt; rw [ih (by omega)]
theorem Order_spec (w0 : World) (b : Nat) (AN : Option Addr) (cN : Nat) (AE : Option Addr) (cE : Nat) (g : RG) (hg : RGA w0 b AN cN AE cE g) (hsm : g.Sm 1000) :
    T1 Tryz.prog 24 [.pointer (some ⟨b, 0, none⟩)] w0 (FirstPost w0 (orderL g.E (risingL g.N))) := by
  refine KW.enterT1 (n := 54) Tryz.func24 rfl rfl rfl ?_
  have hs := St.init w0 noS
  have hgN : ∀ w, Keep noS w0 w → _ := fun w hk => hg.ldN hk
  have hnl := hsm.n
  refine KW.seq ?_
  refine CW.region (S := noS) [(0, .q), (1, .q)] rfl ?_
  refine EW.assign rfl rfl rfl rfl rfl rfl ?_
  refine EW.assign rfl rfl rfl rfl rfl rfl ?_
  refine EW.done ?_
  refine NW.seq ?_
  refine KW.seq ?_
  refine CW.region (S := noS) [(0, .q), (1, .q), (2, .q), (3, .q), (4, .l), (5, .q)] rfl ?_
  refine EW.move rfl rfl rfl rfl rfl rfl ?_
  refine EW.nilCheck rfl rfl rfl rfl rfl rfl ?_
  first | refine EW.fieldAddr rfl rfl rfl rfl rfl rfl ?_ | refine EW.fieldAddrA rfl rfl rfl rfl rfl rfl ?_
  refine EW.loadP rfl rfl rfl rfl rfl rfl (by first | with_reducible exact hgN _ hs.keep | assumption | (apply LDP.drew; assumption) | exact St.ld1 hs 0 rfl rfl | exact St.ldA hs 0 rfl rfl rfl | exact St.ld1 hs 1 rfl rfl | exact St.ldA hs 1 rfl rfl rfl | exact St.ld1 hs 2 rfl rfl | exact St.ldA hs 2 rfl rfl rfl | exact St.ld1 hs 3 rfl rfl | exact St.ldA hs 3 rfl rfl rfl | exact St.ld1 hs 4 rfl rfl | exact St.ldA hs 4 rfl rfl rfl | exact St.ld1 hs 5 rfl rfl | exact St.ldA hs 5 rfl rfl rfl | exact St.ld1 hs 6 rfl rfl | exact St.ldA hs 6 rfl rfl rfl) (by first | exact .inl rfl | exact .inr (fun h => h)) ?_
  refine EW.callT1 (Rising_spec _ AN cN g.N (hg.stay hs.keep).n (by omega) hsm.nm) rfl rfl rfl rfl rfl Tryz.func15 bd15 nm15 rfl ?_
  intro v12 w hk12 hp12
  replace hs := hs.fresh hk12 hp12
  obtain ⟨A12, c12, rfl, _⟩ := own_sl (hs.res 0 rfl)
  refine EW.assign rfl rfl rfl rfl rfl rfl ?_
  refine EW.done ?_
  refine NW.seq ?_
  refine KW.seq ?_
  refine CW.region (S := noS) [(0, .q)] rfl ?_
  refine EW.assign rfl rfl rfl rfl rfl rfl ?_
  refine EW.done ?_
  refine NW.seq ?_
  refine KW.seq ?_
  refine KW.block ?_
  obtain ⟨all, hall⟩ : ∃ all, all = risingL g.N := ⟨_, rfl⟩
  rw [← hall] at hs ⊢
  have hal : all.length ≤ 1000 := by rw [hall]; exact Nat.le_trans (length_risingL _) hnl
  replace hs := hs.nil elL
  refine KW.loop (ι := List Lab × Value) (fun i => all.length - i.1.length) (fun i => [(0, .pointer (some ⟨b, 0, none⟩)), (4, .slice A12 all.length c12), (5, i.2)]) (fun i w => i.1.length ≤ all.length ∧ outIt g.E all i.1.length = some i.1 ∧ St w0 noS w [own elL i.2 i.1, own elL (.slice A12 all.length c12) all]) ([], .slice none 0 0) (by repeat (first | exact trivial | (refine ⟨by first | rfl | (congr 2; omega) | (simp; done) | (congr 1; simp; done), ?_⟩))) ?_ ?_
  · exact ⟨Nat.zero_le _, rfl, hs⟩
  clear hs
  rintro ⟨out, vo⟩ w ⟨hol, hit, hs⟩
  dsimp only at hol hit hs
  obtain ⟨Ao, co, rfl, _⟩ := own_sl (hs.res 0 rfl)
  refine KW.seq ?_
  refine KW.seq ?_
  refine CW.region (S := noS) [(0, .q), (1, .q), (2, .q), (3, .q), (4, .q)] rfl ?_
  refine EW.move rfl rfl rfl rfl rfl rfl ?_
  refine EW.len rfl rfl rfl rfl rfl rfl ?_
  refine EW.move rfl rfl rfl rfl rfl rfl ?_
  refine EW.len rfl rfl rfl rfl rfl rfl ?_
  refine EW.bin rfl rfl rfl rfl rfl rfl rfl BV.lss ?_
  refine EW.done ?_
  refine NW.seq ?_
  by_cases hlt : out.length < all.length
  · refine CW.cond_t rfl (by simpa using hlt) ?_
    refine KW.skip ?_
    refine NW.seq ?_
    refine KW.block ?_
    refine KW.seq ?_
    refine CW.region (S := noS) [(0, .q)] rfl ?_
    refine EW.assign rfl rfl rfl rfl rfl rfl ?_
    refine EW.done ?_
    refine NW.seq ?_
    refine KW.cut (ι := Bool × List Lab × Value) (fun i => [(0, .pointer (some ⟨b, 0, none⟩)), (4, .slice A12 all.length c12), (5, i.2.2), (6, .bool i.1)]) (fun i w => ((i.1 = false ∧ nextL g.E all out = none ∧ i.2.1 = out) ∨ (i.1 = true ∧ ∃ a, nextL g.E all out = some a ∧ i.2.1 = out ++ [a])) ∧ St w0 noS w [own elL i.2.2 i.2.1, own elL (.slice A12 all.length c12) all]) ?_ ?_
    · skip
      refine KW.seq ?_
      refine CW.region (S := noS) [(0, .q)] rfl ?_
      refine EW.assign rfl rfl rfl rfl rfl rfl ?_
      refine EW.done ?_
      refine NW.seq ?_
      refine KW.block ?_
      refine KW.loop (ι := Nat × Bool × List Lab × Value) (fun i => all.length - i.1) (fun i => [(0, .pointer (some ⟨b, 0, none⟩)), (4, .slice A12 all.length c12), (5, i.2.2.2), (6, .bool i.2.1), (7, .int .i64 (i.1 : Int))]) (fun i w => i.1 ≤ all.length ∧ ((i.2.1 = false ∧ i.2.2.1 = out ∧ ∀ a ∈ all.take i.1, (!decide (a ∈ out) && readyB g.E a out) = false) ∨ (i.2.1 = true ∧ ∃ a, nextL g.E all out = some a ∧ i.2.2.1 = out ++ [a])) ∧ St w0 noS w [own elL i.2.2.2 i.2.2.1, own elL (.slice A12 all.length c12) all]) (0, false, out, .slice Ao out.length co) (by repeat (first | exact trivial | (refine ⟨by first | rfl | (congr 2; omega) | (simp; done) | (congr 1; simp; done), ?_⟩))) ?_ ?_
      · exact ⟨Nat.zero_le _, .inl ⟨rfl, rfl, by simp⟩, hs⟩
      clear hs
      rintro ⟨k, f, ys, vy⟩ w ⟨hk, hf, hs⟩
      dsimp only at hk hf hs
      refine KW.seq ?_
      refine KW.seq ?_
      refine CW.region (S := noS) [(0, .q), (1, .q), (2, .q), (3, .q), (4, .q), (5, .q), (6, .q), (7, .q)] rfl ?_
      refine EW.move rfl rfl rfl rfl rfl rfl ?_
      refine EW.move rfl rfl rfl rfl rfl rfl ?_
      refine EW.len rfl rfl rfl rfl rfl rfl ?_
      refine EW.bin rfl rfl rfl rfl rfl rfl rfl BV.lss ?_
      refine EW.move rfl rfl rfl rfl rfl rfl ?_
      refine EW.caseB (fun h1 => ?_) (fun h1 => ?_)
      · skip
        have h1' : k < all.length := by simpa using h1
        refine EW.move rfl rfl rfl rfl rfl rfl ?_
        refine EW.not rfl rfl rfl rfl rfl rfl ?_
        refine EW.pick rfl rfl rfl rfl rfl rfl rfl ?_
        refine EW.done ?_
        refine NW.seq ?_
        by_cases hft : f = false
        · refine CW.cond_t rfl (by rw [hft]; rfl) ?_
          subst hft
          obtain ⟨hys, hno⟩ : ys = out ∧ ∀ a ∈ all.take k, (!decide (a ∈ out) && readyB g.E a out) = false := by
            rcases hf with h | h
            · exact h.2
            · cases h.1
          subst hys
          obtain ⟨Ay, cy, rfl, _⟩ := own_sl (hs.res 0 rfl)
          obtain ⟨aa, rfl, _, hla⟩ := (hs.sl 1 rfl).at_ h1'
          have g1 : LDP Tryz.prog w 44 (aa.add (((k : Nat) : Int).toNat * 2)) (encL all[k]) := hla k _ (by simp)
          have htk : all.take (k + 1) = all.take k ++ [all[k]] := List.take_succ_eq_append_getElem h1'
          have hnext : (!decide (all[k] ∈ ys) && readyB g.E all[k] ys) = false → ∀ a ∈ all.take (k + 1), (!decide (a ∈ ys) && readyB g.E a ys) = false := fun h a ha => by
            rw [htk, List.mem_append, List.mem_singleton] at ha
            rcases ha with ha | ha
            · exact hno a ha
            · rw [ha]; exact h
          have hfind : (!decide (all[k] ∈ ys) && readyB g.E all[k] ys) = true → nextL g.E all ys = some all[k] := fun h => find_at _ all k h1' hno h
          refine KW.skip ?_
          refine NW.seq ?_
          refine KW.seq ?_
          refine KW.block ?_
          refine KW.seq ?_
          refine KW.seq ?_
          refine CW.region (S := noS) [(0, .q), (1, .q), (2, .q), (3, .q), (4, .q), (5, .l), (6, .q), (7, .q), (8, .q), (9, .q), (10, .q), (11, .q), (12, .q), (13, .l), (14, .q), (15, .q)] rfl ?_
          refine EW.move rfl rfl rfl rfl rfl rfl ?_
          refine EW.move rfl rfl rfl rfl rfl rfl ?_
          refine EW.move rfl rfl rfl rfl rfl rfl ?_
          refine EW.indexAddr rfl rfl rfl rfl rfl rfl rfl (by omega) (by omega) ?_
          refine EW.loadP rfl rfl rfl rfl rfl rfl (by first | with_reducible exact hgN _ hs.keep | assumption | (apply LDP.drew; assumption) | exact St.ld1 hs 0 rfl rfl | exact St.ldA hs 0 rfl rfl rfl | exact St.ld1 hs 1 rfl rfl | exact St.ldA hs 1 rfl rfl rfl | exact St.ld1 hs 2 rfl rfl | exact St.ldA hs 2 rfl rfl rfl | exact St.ld1 hs 3 rfl rfl | exact St.ldA hs 3 rfl rfl rfl | exact St.ld1 hs 4 rfl rfl | exact St.ldA hs 4 rfl rfl rfl | exact St.ld1 hs 5 rfl rfl | exact St.ldA hs 5 rfl rfl rfl | exact St.ld1 hs 6 rfl rfl | exact St.ldA hs 6 rfl rfl rfl) (by first | exact .inl rfl | exact .inr (fun h => h)) ?_
          refine EW.callT1 (In_spec _ _ _ _ _ (hs.sl 0 rfl) (by omega)) rfl rfl rfl rfl rfl Tryz.func22 bd22 nm22 rfl ?_
          intro v33 w hk33 hp33
          subst hp33
          replace hs := hs.stay hk33
          refine EW.move rfl rfl rfl rfl rfl rfl ?_
          refine EW.caseB (fun h2 => ?_) (fun h2 => ?_)
          · skip
            refine EW.off rfl rfl rfl rfl ?_
            refine EW.off rfl rfl rfl rfl ?_
            refine EW.off rfl rfl rfl rfl ?_
            refine EW.off rfl rfl rfl rfl ?_
            refine EW.off rfl rfl rfl rfl ?_
            refine EW.off rfl rfl rfl rfl ?_
            refine EW.off rfl rfl rfl rfl ?_
            refine EW.off rfl rfl rfl rfl ?_
            refine EW.pick rfl rfl rfl rfl rfl rfl rfl ?_
            refine EW.done ?_
            refine NW.seq ?_
            refine CW.cond_t rfl (rfl) ?_
            refine KW.exit ?_
            refine XW.seq ?_
            refine XW.blk ?_
            refine NW.seq ?_
            refine CW.region (S := noS) [(0, .q), (1, .q), (2, .q)] rfl ?_
            refine EW.move rfl rfl rfl rfl rfl rfl ?_
            refine EW.bin rfl rfl rfl rfl rfl rfl rfl (BV.add (wrap_i64 (by omega) (by omega))) ?_
            refine EW.assign rfl rfl rfl rfl rfl rfl ?_
            refine EW.done ?_
            refine NW.again ((k + 1, false, ys, .slice Ay ys.length cy)) (by first | assumption | (dsimp only; omega) | omega | (simp; omega)) (by repeat (first | exact trivial | (refine ⟨by first | rfl | (congr 2; omega) | (simp; done) | (congr 1; simp; done), ?_⟩))) ?_
            try dsimp only
            exact ⟨h1', .inl ⟨rfl, rfl, hnext (by rw [h2]; rfl)⟩, hs⟩
          · skip
            have g2 : LDP Tryz.prog w 44 (aa.add (((k : Nat) : Int).toNat * 2)) (encL all[k]) := by
              obtain ⟨aa', haa, _, hla'⟩ := (hs.sl 1 rfl).at_ h1'
              injection haa with haa; subst haa
              exact hla' k _ (by simp)
            refine EW.move rfl rfl rfl rfl rfl rfl ?_
            refine EW.move rfl rfl rfl rfl rfl rfl ?_
            refine EW.move rfl rfl rfl rfl rfl rfl ?_
            refine EW.indexAddr rfl rfl rfl rfl rfl rfl rfl (by omega) (by omega) ?_
            refine EW.loadP rfl rfl rfl rfl rfl rfl (by first | with_reducible exact hgN _ hs.keep | assumption | (apply LDP.drew; assumption) | exact St.ld1 hs 0 rfl rfl | exact St.ldA hs 0 rfl rfl rfl | exact St.ld1 hs 1 rfl rfl | exact St.ldA hs 1 rfl rfl rfl | exact St.ld1 hs 2 rfl rfl | exact St.ldA hs 2 rfl rfl rfl | exact St.ld1 hs 3 rfl rfl | exact St.ldA hs 3 rfl rfl rfl | exact St.ld1 hs 4 rfl rfl | exact St.ldA hs 4 rfl rfl rfl | exact St.ld1 hs 5 rfl rfl | exact St.ldA hs 5 rfl rfl rfl | exact St.ld1 hs 6 rfl rfl | exact St.ldA hs 6 rfl rfl rfl) (by first | exact .inl rfl | exact .inr (fun h => h)) ?_
            refine EW.move rfl rfl rfl rfl rfl rfl ?_
            refine EW.callT1 (ready_spec _ b _ _ _ _ g all[k] _ _ ys (hg.stay hs.keep) hsm (hs.sl 0 rfl) (by omega)) rfl rfl rfl rfl rfl Tryz.func41 bd41 nm41 rfl ?_
            intro v41 w hk41 hp41
            subst hp41
            replace hs := hs.stay hk41
            refine EW.not rfl rfl rfl rfl rfl rfl ?_
            refine EW.pick rfl rfl rfl rfl rfl rfl rfl ?_
            refine EW.done ?_
            refine NW.seq ?_
            refine KW.cond rfl (fun h3 => ?_) (fun h3 => ?_)
            · skip
              refine KW.exit ?_
              refine XW.seq ?_
              refine XW.blk ?_
              refine NW.seq ?_
              refine CW.region (S := noS) [(0, .q), (1, .q), (2, .q)] rfl ?_
              refine EW.move rfl rfl rfl rfl rfl rfl ?_
              refine EW.bin rfl rfl rfl rfl rfl rfl rfl (BV.add (wrap_i64 (by omega) (by omega))) ?_
              refine EW.assign rfl rfl rfl rfl rfl rfl ?_
              refine EW.done ?_
              refine NW.again ((k + 1, false, ys, .slice Ay ys.length cy)) (by first | assumption | (dsimp only; omega) | omega | (simp; omega)) (by repeat (first | exact trivial | (refine ⟨by first | rfl | (congr 2; omega) | (simp; done) | (congr 1; simp; done), ?_⟩))) ?_
              try dsimp only
              refine ⟨h1', .inl ⟨rfl, rfl, hnext ?_⟩, hs⟩
              have : readyB g.E all[k] ys = false := by simpa using h3
              rw [this]; simp
            · skip
              have g3 : LDP Tryz.prog w 44 (aa.add (((k : Nat) : Int).toNat * 2)) (encL all[k]) := by
                obtain ⟨aa', haa, _, hla'⟩ := (hs.sl 1 rfl).at_ h1'
                injection haa with haa; subst haa
                exact hla' k _ (by simp)
              have hol2 : ys.length ≤ 1000 := by omega
              refine KW.skip ?_
              refine NW.seq ?_
              refine KW.seq ?_
              refine CW.region (S := noS) [(0, .q), (1, .q), (2, .q), (3, .q), (4, .q), (5, .l), (6, .l), (7, .q)] rfl ?_
              refine EW.move rfl rfl rfl rfl rfl rfl ?_
              refine EW.move rfl rfl rfl rfl rfl rfl ?_
              refine EW.move rfl rfl rfl rfl rfl rfl ?_
              refine EW.indexAddr rfl rfl rfl rfl rfl rfl rfl (by omega) (by omega) ?_
              refine EW.loadP rfl rfl rfl rfl rfl rfl (by first | with_reducible exact hgN _ hs.keep | assumption | (apply LDP.drew; assumption) | exact St.ld1 hs 0 rfl rfl | exact St.ldA hs 0 rfl rfl rfl | exact St.ld1 hs 1 rfl rfl | exact St.ldA hs 1 rfl rfl rfl | exact St.ld1 hs 2 rfl rfl | exact St.ldA hs 2 rfl rfl rfl | exact St.ld1 hs 3 rfl rfl | exact St.ldA hs 3 rfl rfl rfl | exact St.ld1 hs 4 rfl rfl | exact St.ldA hs 4 rfl rfl rfl | exact St.ld1 hs 5 rfl rfl | exact St.ldA hs 5 rfl rfl rfl | exact St.ld1 hs 6 rfl rfl | exact St.ldA hs 6 rfl rfl rfl) (by first | exact .inl rfl | exact .inr (fun h => h)) ?_
              refine EW.lit1 elL (_) hs rfl rfl rfl rfl rfl rfl rfl ?_
              clear hs; intro b49 w hs
              first | refine EW.append1 elL 1 0 hs rfl rfl (by show _ * 32 ≤ 140737488355328; omega) (.inl rfl) rfl rfl rfl rfl rfl rfl rfl ?_ | refine EW.append1 elL 2 0 hs rfl rfl (by show _ * 32 ≤ 140737488355328; omega) (.inl rfl) rfl rfl rfl rfl rfl rfl rfl ?_ | refine EW.append1 elL 3 0 hs rfl rfl (by show _ * 32 ≤ 140737488355328; omega) (.inl rfl) rfl rfl rfl rfl rfl rfl rfl ?_ | refine EW.append1 elL 4 0 hs rfl rfl (by show _ * 32 ≤ 140737488355328; omega) (.inl rfl) rfl rfl rfl rfl rfl rfl rfl ?_ | refine EW.append1 elL 5 0 hs rfl rfl (by show _ * 32 ≤ 140737488355328; omega) (.inl rfl) rfl rfl rfl rfl rfl rfl rfl ?_ | refine EW.append1 elL 6 0 hs rfl rfl (by show _ * 32 ≤ 140737488355328; omega) (.inl rfl) rfl rfl rfl rfl rfl rfl rfl ?_ | refine EW.append1 elL 7 0 hs rfl rfl (by show _ * 32 ≤ 140737488355328; omega) (.inl rfl) rfl rfl rfl rfl rfl rfl rfl ?_
              clear hs; intro v50 w hs; dsimp only [List.set] at hs; replace hs := hs.tail
              refine EW.assign rfl rfl rfl rfl rfl rfl ?_
              refine EW.done ?_
              refine NW.seq ?_
              refine CW.region (S := noS) [(0, .q)] rfl ?_
              refine EW.assign rfl rfl rfl rfl rfl rfl ?_
              refine EW.done ?_
              refine NW.blk ?_
              refine NW.seq ?_
              refine CW.region (S := noS) [(0, .q), (1, .q), (2, .q)] rfl ?_
              refine EW.move rfl rfl rfl rfl rfl rfl ?_
              refine EW.bin rfl rfl rfl rfl rfl rfl rfl (BV.add (wrap_i64 (by omega) (by omega))) ?_
              refine EW.assign rfl rfl rfl rfl rfl rfl ?_
              refine EW.done ?_
              refine NW.again ((k + 1, true, ys ++ [all[k]], v50)) (by first | assumption | (dsimp only; omega) | omega | (simp; omega)) (by repeat (first | exact trivial | (refine ⟨by first | rfl | (congr 2; omega) | (simp; done) | (congr 1; simp; done), ?_⟩))) ?_
              try dsimp only
              refine ⟨h1', .inr ⟨rfl, all[k], hfind ?_, rfl⟩, hs⟩
              have : readyB g.E all[k] ys = true := by simpa using h3
              rw [this, h2]; rfl
        · refine CW.cond_f rfl (by cases f; exact absurd rfl hft; rfl) ?_
          obtain ⟨a, hn, hys⟩ : ∃ a, nextL g.E all out = some a ∧ ys = out ++ [a] := by
            rcases hf with h | h
            · exact absurd h.1 hft
            · exact h.2
          refine KW.exit ?_
          refine XW.seq ?_
          refine XW.inv ?_
          refine XW.blk ?_
          refine NW.meet ((f, ys, vy)) (by repeat (first | exact trivial | (refine ⟨by first | rfl | (congr 2; omega) | (simp; done) | (congr 1; simp; done), ?_⟩))) ?_
          try dsimp only
          exact ⟨.inr ⟨by cases f; exact absurd rfl hft; rfl, a, hn, hys⟩, hs⟩
      · skip
        have h1' : k = all.length := by simp at h1; omega
        subst h1'
        rw [List.take_length] at hf
        refine EW.off rfl rfl rfl rfl ?_
        refine EW.off rfl rfl rfl rfl ?_
        refine EW.pick rfl rfl rfl rfl rfl rfl rfl ?_
        refine EW.done ?_
        refine NW.seq ?_
        refine CW.cond_f rfl (rfl) ?_
        refine KW.exit ?_
        refine XW.seq ?_
        refine XW.inv ?_
        refine XW.blk ?_
        refine NW.meet ((f, ys, vy)) (by repeat (first | exact trivial | (refine ⟨by first | rfl | (congr 2; omega) | (simp; done) | (congr 1; simp; done), ?_⟩))) ?_
        try dsimp only
        refine ⟨?_, hs⟩
        rcases hf with ⟨h2, h3, h4⟩ | h
        · exact .inl ⟨h2, List.find?_eq_none.2 (fun a ha => by rw [h4 a ha]; simp), h3⟩
        · exact .inr h
    · skip
      rintro ⟨f, ys, vy⟩ w ⟨hf, hs⟩
      dsimp only at hf hs
      refine KW.seq ?_
      refine CW.region (S := noS) [(0, .q), (1, .q)] rfl ?_
      refine EW.move rfl rfl rfl rfl rfl rfl ?_
      refine EW.not rfl rfl rfl rfl rfl rfl ?_
      refine EW.done ?_
      refine NW.seq ?_
      by_cases hft : f = false
      · refine CW.cond_t rfl (by rw [hft]; rfl) ?_
        have hn : nextL g.E all out = none := by
          rcases hf with h | h
          · exact h.2.1
          · rw [hft] at h; cases h.1
        refine KW.seq ?_
        refine CW.region (S := noS) [(0, .q), (1, .q)] rfl ?_
        refine EW.assign rfl rfl rfl rfl rfl rfl ?_
        refine EW.assign rfl rfl rfl rfl rfl rfl ?_
        refine EW.done ?_
        refine NW.seq ?_
        refine KW.ret2 rfl rfl rfl ?_
        refine ⟨_, rfl, hs.keep, ?_⟩
        have h1 : outIt g.E all (out.length + 1) = none := by unfold outIt; rw [hit]; simp [hn]
        unfold orderL
        rw [outIt_none _ _ h1 _ hlt]
        exact ⟨(none, 0, 0), rfl, (hs.nil elL).pick [0] (by decide)⟩
      · refine CW.cond_f rfl (by cases f; exact absurd rfl hft; rfl) ?_
        obtain ⟨a, hn, hys⟩ : ∃ a, nextL g.E all out = some a ∧ ys = out ++ [a] := by
          rcases hf with h | h
          · exact absurd h.1 hft
          · exact h.2
        subst hys
        refine KW.skip ?_
        refine NW.blk ?_
        have hmu : all.length - (out ++ [a]).length < all.length - out.length := by rw [List.length_append, List.length_singleton]; omega
        refine NW.again ((out ++ [a], vy)) (by first | assumption | (dsimp only; omega) | omega | (simp; omega)) (by repeat (first | exact trivial | (refine ⟨by first | rfl | (congr 2; omega) | (simp; done) | (congr 1; simp; done), ?_⟩))) ?_
        try dsimp only
        refine ⟨by rw [List.length_append, List.length_singleton]; omega, ?_, hs⟩
        rw [List.length_append, List.length_singleton]
        unfold outIt
        rw [hit]; simp [hn]
  · refine CW.cond_f rfl (by simpa using hlt) ?_
    have hoe : out.length = all.length := by omega
    refine KW.exit ?_
    refine XW.seq ?_
    refine XW.inv ?_
    refine XW.blk ?_
    refine NW.seq ?_
    refine KW.seq ?_
    refine CW.region (S := noS) [(0, .q), (1, .q), (2, .q)] rfl ?_
    refine EW.move rfl rfl rfl rfl rfl rfl ?_
    refine EW.assign rfl rfl rfl rfl rfl rfl ?_
    refine EW.assign rfl rfl rfl rfl rfl rfl ?_
    refine EW.done ?_
    refine NW.seq ?_
    refine KW.ret2 rfl rfl rfl ?_
    refine ⟨_, rfl, hs.keep, ?_⟩
    unfold orderL
    rw [← hoe, hit]
    exact ⟨(Ao, out.length, co), rfl, hs.pick [0] (by decide)⟩
end Go.Cw.Tryz
set_option linter.unusedVariables false
set_option linter.unusedSimpArgs false
namespace Go.Cw.Tryz
open Go.Proofs Go.Cw
theorem filter_lt {α : Type} (p q : α → Bool) : ∀ (l : List α), (∀ x ∈ l, p x = true → q x = true) → (∃ x ∈ l, q x = true ∧ p x = false) → (l.filter p).length < (l.filter q).length
  | [], _, ⟨x, hx, _⟩ => by simp at hx
  | y :: r, hpq, ⟨x, hx, hq, hp⟩ => by
    have hle : ∀ r : List α, (∀ x ∈ r, p x = true → q x = true) → (r.filter p).length ≤ (r.filter q).length := by
      intro r
      induction r with
      | nil => intro _; simp
      | cons z s ih =>
        intro h
        have := ih fun x hx => h x (by simp [hx])
        by_cases hz : p z = true
        · rw [List.filter_cons_of_pos hz, List.filter_cons_of_pos (h z (by simp) hz)]; simpa using this
        · rw [List.filter_cons_of_neg hz]
          by_cases hz2 : q z = true
          · rw [List.filter_cons_of_pos hz2]; simp; omega
          · rw [List.filter_cons_of_neg hz2]; exact this
    have hr := fun x (hx : x ∈ r) => hpq x (by simp [hx])
    rcases List.mem_cons.1 hx with h1 | h1
    · subst h1
      rw [List.filter_cons_of_neg (by simp [hp]), List.filter_cons_of_pos hq]
      have := hle r hr
      simp; omega
    · have ih := filter_lt p q r hr ⟨x, h1, hq, hp⟩
      by_cases hz : p y = true
      · rw [List.filter_cons_of_pos hz, List.filter_cons_of_pos (hpq y (by simp) hz)]; simpa using ih
      · rw [List.filter_cons_of_neg hz]
        by_cases hz2 : q y = true
        · rw [List.filter_cons_of_pos hz2]; simp; omega
        · rw [List.filter_cons_of_neg hz2]; exact ih
open Classical in
/-- Where each has a next, there is a circle. -/
theorem circle (E : List Edg) (S : Lab → Prop) (l : List Lab) (hl : ∀ a, S a → a ∈ l) (hn : ∀ a, S a → ∃ b, S b ∧ (a, b) ∈ E) {a0 : Lab} (h0 : S a0) : ∃ a b, (a, b) ∈ E ∧ Rc E b a := by
  apply Classical.byContradiction
  intro hno
  have key : ∀ n a, S a → (l.filter fun x => decide (∃ b, (a, b) ∈ E ∧ Rc E b x)).length = n → False := by
    intro n
    induction n using Nat.strongRecOn with
    | _ n ih =>
      intro a ha hlen
      obtain ⟨b, hb, hab⟩ := hn a ha
      have hlt := filter_lt (fun x => decide (∃ c, (b, c) ∈ E ∧ Rc E c x)) (fun x => decide (∃ c, (a, c) ∈ E ∧ Rc E c x)) l
        (fun x _ hx => by
          obtain ⟨c, hbc, hcx⟩ := of_decide_eq_true hx
          exact decide_eq_true ⟨b, hab, (Rc.one hbc).trans hcx⟩)
        ⟨b, hl b hb, decide_eq_true ⟨b, hab, Rc.refl _ _⟩, decide_eq_false fun ⟨c, hbc, hcb⟩ => hno ⟨b, c, hbc, hcb⟩⟩
      exact ih _ (hlen ▸ hlt) b hb rfl
  exact key _ a0 h0 rfl

structure Told (E : List Edg) (all out : List Lab) : Prop where
  sub : ∀ a ∈ out, a ∈ all
  nodup : out.Nodup
  topo : ∀ (i : Nat) (a : Lab), out[i]? = some a → ∀ e ∈ E, e.1 = a → e.2 ∈ out.take i
theorem nextL_some {E : List Edg} {all out : List Lab} {a : Lab} (h : nextL E all out = some a) : a ∈ all ∧ a ∉ out ∧ readyB E a out = true := by
  have h1 := List.mem_of_find?_eq_some h
  have h2 := List.find?_some h
  simp only [Bool.and_eq_true, Bool.not_eq_true', decide_eq_false_iff_not] at h2
  exact ⟨h1, h2.1, h2.2⟩
theorem told_of {E : List Edg} {all : List Lab} : ∀ (k : Nat) (out : List Lab), outIt E all k = some out → Told E all out := by
  intro k
  induction k with
  | zero => intro out h; simp only [outIt, Option.some.injEq] at h; subst h; exact ⟨by simp, List.nodup_nil, by simp⟩
  | succ k ih =>
    intro out h
    unfold outIt at h
    split at h
    · rename_i o ho
      obtain ⟨a, ha, rfl⟩ := Option.map_eq_some_iff.1 h
      obtain ⟨h1, h2, h3⟩ := nextL_some ha
      have ht := ih o ho
      refine ⟨fun x hx => ?_, List.nodup_append.2 ⟨ht.nodup, by simp, fun x hx y hy e => ?_⟩, fun i x hx e he hex => ?_⟩
      · rcases List.mem_append.1 hx with hx | hx
        · exact ht.sub x hx
        · rw [List.mem_singleton.1 hx]; exact h1
      · rw [List.mem_singleton.1 hy] at e; exact h2 (e ▸ hx)
      · by_cases hi : i < o.length
        · rw [List.getElem?_append_left hi] at hx
          rw [List.take_append_of_le_length (by omega)]
          exact ht.topo i x hx e he hex
        · rw [List.getElem?_append_right (by omega)] at hx
          have hi2 : i = o.length := by
            have := (List.getElem?_eq_some_iff.1 hx).1
            simp at this; omega
          subst hi2
          rw [Nat.sub_self] at hx
          simp at hx; subst hx
          rw [List.take_left' rfl]
          exact (readyB_iff _ _ _).1 h3 e he hex
    · cases h
theorem told_all {E : List Edg} {all out : List Lab} (h : Told E all out) (hl : out.length = all.length) : ∀ a ∈ all, a ∈ out := fun a ha => by
  apply Classical.byContradiction
  intro hn
  have := nodup_sub_len (a :: out) all (List.nodup_cons.2 ⟨hn, h.nodup⟩) (fun x hx => by
    rcases List.mem_cons.1 hx with h1 | h1
    · rw [h1]; exact ha
    · exact h.sub x h1)
  simp at this; omega
/-- There is an order just if no part holds a circle. -/
theorem order_first {g : RG} {xss : List (List Lab)} (hip : IsParts g.N g.E xss) (hwf : g.Wf) : (firstC g.E xss).2 = !(orderL g.E (risingL g.N)).2 := by
  obtain ⟨all, hall⟩ : ∃ all, all = risingL g.N := ⟨_, rfl⟩
  rw [← hall]
  have hm : ∀ a, a ∈ all ↔ a ∈ g.N := fun a => by rw [hall]; exact (rising_spec _).2 a
  have hholds : (firstC g.E xss).2 = true ↔ ∃ p ∈ xss, holdsC g.E p = true := by
    unfold firstC
    constructor
    · intro h
      split at h
      · rename_i p hp
        exact ⟨p, List.mem_of_find?_eq_some hp, List.find?_some hp⟩
      · cases h
    · rintro ⟨p, hp, hh⟩
      split
      · rfl
      · rename_i hn
        have := List.find?_eq_none.1 hn p hp
        exact absurd hh this
  cases ho : outIt g.E all all.length with
  | some out =>
    have hT := told_of _ _ ho
    have hlen := outIt_len _ _ _ _ ho
    have e1 : orderL g.E all = (out, true) := by unfold orderL; rw [ho]
    rw [e1]
    show (firstC g.E xss).2 = false
    cases hf : (firstC g.E xss).2 with
    | false => rfl
    | true =>
      exfalso
      obtain ⟨p, hp, hh⟩ := hholds.1 hf
      have hin : ∀ a ∈ g.N, a ∈ out := fun a ha => told_all hT hlen a ((hm a).2 ha)
      have hedge : ∀ x y, (x, y) ∈ g.E → out.idxOf y < out.idxOf x := fun x y he => by
        have hx := hin x (hwf _ he).1
        have h1 := hT.topo (out.idxOf x) x (get_idx hx) _ he rfl
        obtain ⟨j, hj⟩ := List.mem_iff_getElem?.1 h1
        rw [List.getElem?_take] at hj
        split at hj
        · rename_i hlt
          rw [idx_get hT.nodup hj]; exact hlt
        · cases hj
      have hreach : ∀ x y, Rc g.E x y → y = x ∨ out.idxOf y < out.idxOf x := fun x y h => by
        unfold Rc at h
        induction h with
        | base z hz => exact .inl hz
        | step z u _ he ih =>
          have := hedge z u he
          rcases ih with ih | ih
          · rw [ih] at this; exact .inr this
          · exact .inr (by omega)
      cases p with
      | nil => exact hip.ne _ hp rfl
      | cons a r =>
        simp only [holdsC, Bool.or_eq_true, decide_eq_true_eq] at hh
        rcases hh with hh | hh
        · cases r with
          | nil => simp at hh
          | cons b s =>
            have hs := hip.sorted _ hp
            have hab : ltLab a b = true := (List.pairwise_cons.1 hs).1 b (by simp)
            have hne : b ≠ a := fun e => by rw [e, lt_irrefl] at hab; cases hab
            obtain ⟨h1, h2⟩ := (hip.cls _ hp a (by simp) b).1 (by simp)
            have h3 := (hreach a b h1).resolve_left hne
            have h4 := (hreach b a h2).resolve_left (Ne.symm hne)
            omega
        · have := hedge a a hh; omega
  | none =>
    have e1 : orderL g.E all = ([], false) := by unfold orderL; rw [ho]
    rw [e1]
    show (firstC g.E xss).2 = true
    rw [hholds]
    obtain ⟨k, out, hk, hko, hkn⟩ : ∃ k out, k < all.length ∧ outIt g.E all k = some out ∧ nextL g.E all out = none := by
      have gen : ∀ n, outIt g.E all n = none → ∃ k out, k < n ∧ outIt g.E all k = some out ∧ nextL g.E all out = none := by
        intro n
        induction n with
        | zero => intro h; cases h
        | succ n ih =>
          intro h
          cases hn : outIt g.E all n with
          | none =>
            obtain ⟨k, out, h1, h2⟩ := ih hn
            exact ⟨k, out, by omega, h2⟩
          | some out =>
            unfold outIt at h
            rw [hn] at h
            simp only [Option.map_eq_none_iff] at h
            exact ⟨n, out, by omega, hn, h⟩
      exact gen _ ho
    have hT := told_of _ _ hko
    have hlen := outIt_len _ _ _ _ hko
    obtain ⟨a0, ha0, hna0⟩ : ∃ a, a ∈ all ∧ a ∉ out := by
      apply Classical.byContradiction
      intro hno
      have hso : all.Nodup := by rw [hall]; exact (rising_spec g.N).1.imp fun {a b} h e => by rw [e, lt_irrefl] at h; cases h
      have := nodup_sub_len all out hso (fun a ha => Classical.byContradiction fun hn => hno ⟨a, ha, hn⟩)
      omega
    obtain ⟨a, b, hab, hba⟩ := circle g.E (fun a => a ∈ all ∧ a ∉ out) all (fun a h => h.1) (fun a ⟨h1, h2⟩ => by
      have h3 := List.find?_eq_none.1 hkn a h1
      have h4 : readyB g.E a out = false := by
        cases hr : readyB g.E a out with
        | false => rfl
        | true => exact absurd (by simp [h2, hr]) h3
      apply Classical.byContradiction
      intro hno
      have : readyB g.E a out = true := (readyB_iff _ _ _).2 fun e he hea => Classical.byContradiction fun hn => hno ⟨e.2, ⟨(hm _).2 (hwf e he).2, hn⟩, hea ▸ he⟩
      rw [this] at h4; cases h4) ⟨ha0, hna0⟩
    obtain ⟨p, hp, hap⟩ := (hip.all a).1 (hwf _ hab).1
    refine ⟨p, hp, ?_⟩
    have hbp : b ∈ p := (hip.cls p hp a hap b).2 ⟨Rc.one hab, hba⟩
    cases p with
    | nil => simp at hap
    | cons x r =>
      cases r with
      | nil =>
        simp at hap hbp
        subst hap hbp
        simp [holdsC, hab]
      | cons y s => simp [holdsC]
end Go.Cw.Tryz
set_option linter.unusedVariables false
set_option linter.unusedSimpArgs false
namespace Go.Cw.Tryz
open Go.Proofs Go.Cw Go.Shelf Go.Sort
attribute [local irreducible] Go.Addr.add
theorem RowsA.hd {w : World} {ao : Addr} {qs : List (SV × List Lab)} (h : RowsA w (some ao) qs) {i n c : Nat} {A : Option Addr} {p : List Lab} (hi : qs[i]? = some ((A, n, c), p)) : LDP Tryz.prog w 30 (ao.add (((i : Nat) : Int).toNat * 1)) (.slice A n c) :=
  sl_ldk (x := ((A, n, c) : SV)) h.outer (by rw [List.getElem?_map, hi]; rfl)
theorem RowsA.el {w : World} {A : Option Addr} {qs : List (SV × List Lab)} (h : RowsA w A qs) {i n c k : Nat} {a : Addr} {p : List Lab} {x : Lab} (hi : qs[i]? = some ((some a, n, c), p)) (hk : p[k]? = some x) : LDP Tryz.prog w 44 (a.add (((k : Nat) : Int).toNat * 2)) (encL x) :=
  sl_ldk (h.inner _ (List.mem_of_getElem? hi)).1 hk
/-- What the law asks of the parts. -/
structure PartsFit (E : List Edg) (xss : List (List Lab)) : Prop where
  lt : ∀ (i : Nat) (p q : List Lab) (a b : Lab), xss[i]? = some p → xss[i + 1]? = some q → p[0]? = some a → q[0]? = some b → ltLab a b = true
  so : ∀ p ∈ xss, ∀ (k : Nat) (a b : Lab), p[k]? = some a → p[k + 1]? = some b → ltLab a b = true
  dis : ∀ (i j : Nat) (p q : List Lab), xss[i]? = some p → xss[j]? = some q → ∀ a ∈ p, a ∈ q → i = j
theorem PartsFit.of {N : List Lab} {E : List Edg} {xss : List (List Lab)} (h : IsParts N E xss) : PartsFit E xss := by
  have hlt : ∀ (i j : Nat) (p q : List Lab), i < j → xss[i]? = some p → xss[j]? = some q → ∀ a ∈ p.head?, ∀ b ∈ q.head?, ltLab a b = true := fun i j p q hij hp hq => by
    obtain ⟨h1, h2⟩ := List.getElem?_eq_some_iff.1 hp
    obtain ⟨h3, h4⟩ := List.getElem?_eq_some_iff.1 hq
    have := List.pairwise_iff_getElem.1 h.order i j h1 h3 hij
    rwa [h2, h4] at this
  refine ⟨fun i p q a b hp hq ha hb => hlt i (i + 1) p q (by omega) hp hq a (by rw [List.head?_eq_getElem?, ha]; rfl) b (by rw [List.head?_eq_getElem?, hb]; rfl), fun p hp k a b ha hb => ?_, fun i j p q hp hq a ha hb => ?_⟩
  · obtain ⟨h1, h2⟩ := List.getElem?_eq_some_iff.1 ha
    obtain ⟨h3, h4⟩ := List.getElem?_eq_some_iff.1 hb
    have := List.pairwise_iff_getElem.1 (h.sorted p hp) k (k + 1) h1 h3 (by omega)
    rwa [h2, h4] at this
  · have he := part_eq h h (List.mem_of_getElem? hp) (List.mem_of_getElem? hq) ha hb
    subst he
    cases p with
    | nil => simp at ha
    | cons x r =>
      rcases Nat.lt_trichotomy i j with h1 | h1 | h1
      · have := hlt i j _ _ h1 hp hq x (by simp) x (by simp); rw [lt_irrefl] at this; cases this
      · exact h1
      · have := hlt j i _ _ h1 hq hp x (by simp) x (by simp); rw [lt_irrefl] at this; cases this
theorem flat_nodup {N : List Lab} {E : List Edg} {xss : List (List Lab)} (h : IsParts N E xss) : xss.flatten.Nodup := by
  have hf := PartsFit.of h
  rw [List.Nodup, List.pairwise_flatten]
  refine ⟨fun p hp => (h.sorted p hp).imp fun {a b} hab e => (by rw [e, lt_irrefl] at hab; cases hab), ?_⟩
  rw [List.pairwise_iff_getElem]
  intro i j hi hj hij a ha b hb e
  subst e
  have := hf.dis i j _ _ (List.getElem?_eq_getElem hi) (List.getElem?_eq_getElem hj) a ha hb
  omega
theorem flat_len {N : List Lab} {E : List Edg} {xss : List (List Lab)} (h : IsParts N E xss) (hN : N.Nodup) : xss.flatten.length = N.length := by
  have hm : ∀ a, a ∈ xss.flatten ↔ a ∈ N := fun a => by rw [h.all a, List.mem_flatten]
  exact Nat.le_antisymm (nodup_sub_len _ _ (flat_nodup h) (fun a ha => (hm a).1 ha)) (nodup_sub_len _ _ hN (fun a ha => (hm a).2 ha))
theorem flat_split {xss : List (List Lab)} {i : Nat} {p : List Lab} (h : xss[i]? = some p) : xss.flatten = (xss.take i).flatten ++ (p ++ (xss.drop (i + 1)).flatten) := by
  obtain ⟨hi, he⟩ := List.getElem?_eq_some_iff.1 h
  have e : xss = xss.take i ++ (p :: xss.drop (i + 1)) := by
    rw [← he, List.getElem_cons_drop, List.take_append_drop]
  conv => lhs; rw [e]
  rw [List.flatten_append, List.flatten_cons]
theorem flat_next {xss : List (List Lab)} {i : Nat} {p : List Lab} (h : xss[i]? = some p) : (xss.take (i + 1)).flatten = (xss.take i).flatten ++ p := by
  rw [List.take_add_one, h, List.flatten_append]; simp
theorem flat_new {xss : List (List Lab)} {i k : Nat} {p : List Lab} {x : Lab} (hn : xss.flatten.Nodup) (h : xss[i]? = some p) (hk : p[k]? = some x) : x ∉ (xss.take i).flatten ++ p.take k ∧ ((xss.take i).flatten ++ p.take k).length + 1 ≤ xss.flatten.length := by
  obtain ⟨hkl, he⟩ := List.getElem?_eq_some_iff.1 hk
  have e : p = p.take k ++ (x :: p.drop (k + 1)) := by rw [← he, List.getElem_cons_drop, List.take_append_drop]
  have e2 : xss.flatten = ((xss.take i).flatten ++ p.take k) ++ (x :: (p.drop (k + 1) ++ (xss.drop (i + 1)).flatten)) := by
    rw [flat_split h]
    conv => lhs; rw [e]
    simp only [List.append_assoc, List.cons_append, List.take_append_drop]
  rw [e2] at hn ⊢
  exact ⟨fun hm => (List.nodup_append.1 hn).2.2 x hm x (by simp) rfl, by simp only [List.length_append, List.length_cons]; omega⟩
theorem rch_one {g : RG} {x a : Lab} (hx : x ∈ g.N) : Rch g.E (fun a => a ∈ [x] ∧ a ∈ g.N) a ↔ Rc g.E x a := by
  constructor
  · intro h
    induction h with
    | base b hb => rw [List.mem_singleton.1 hb.1]; exact Rc.refl _ _
    | step b c _ he ih => exact ih.step he
  · intro h
    unfold Rc at h
    induction h with
    | base b hb => exact .base b ⟨by rw [hb]; simp, by rw [hb]; exact hx⟩
    | step b c _ he ih => exact .step b c ih he
theorem CycleParts_spec (w0 : World) (A : Option Addr) (c : Nat) (xs : List Edi) (hx : SlA elD w0 A xs) (hl : xs.length ≤ 10000000) (hsm : ∀ x ∈ xs, SmD x) (hgl : GL w0) :
    T1 Tryz.prog 5 [.slice A xs.length c] w0 fun v w' => v = .bool true := by
  obtain ⟨hok, hgs⟩ := madeG_good (xs.take 60) (fun x hx => hsm x (List.mem_of_mem_take hx))
  replace hgs := hgs.mono (l := 120) (by have := List.length_take_le 60 xs; omega)
  obtain ⟨g, hge⟩ : ∃ g, g = madeG (xs.take 60) := ⟨_, rfl⟩
  rw [← hge] at hok hgs
  have hnl : g.N.length ≤ 120 := hgs.n
  have hel : g.E.length ≤ 120 := hgs.e
  have hbig := hgs.big (by decide)
  have hg1 : g.Sm 1000 := hgs.mono (by decide)
  refine KW.enterT1 (n := 212) Tryz.func5 rfl rfl rfl ?_
  have hs := St.init w0 noS
  refine KW.seq ?_
  refine CW.region (S := noS) [(0, .q)] rfl ?_
  refine EW.assign rfl rfl rfl rfl rfl rfl ?_
  refine EW.done ?_
  refine NW.seq ?_
  refine KW.seq ?_
  refine KW.seq ?_
  refine CW.region (S := noS) [(0, .l), (1, .q)] rfl ?_
  refine EW.callT1 (head_spec _ (hgl.stay hs.keep)) rfl rfl rfl rfl rfl Tryz.func6 bd6 nm6 rfl ?_
  intro v17 w hk17 hp17
  subst hp17
  replace hs := hs.stay hk17
  refine EW.not rfl rfl rfl rfl rfl rfl ?_
  refine EW.done ?_
  refine NW.seq ?_
  refine CW.cond_f rfl (rfl) ?_
  refine KW.skip ?_
  refine NW.seq ?_
  refine KW.seq ?_
  refine CW.region (S := noS) [(0, .q), (1, .l), (2, .q), (3, .q), (4, .q), (5, .q), (6, .q)] rfl ?_
  refine EW.move rfl rfl rfl rfl rfl rfl ?_
  refine EW.callT1 (made_spec _ _ _ xs (hx.stay hs.keep) hl hsm (hgl.stay hs.keep)) rfl rfl rfl rfl rfl Tryz.func7 bd7 nm7 rfl ?_
  intro v21 w hk21 hp21
  obtain ⟨b, mb, ps, b2, vN, vE, rfl, hps, hst⟩ := hp21
  replace hs := hs.plus hst
  clear hst
  rw [← hge] at hps hs
  refine EW.move rfl rfl rfl rfl rfl rfl ?_
  refine EW.extract rfl rfl rfl rfl rfl rfl rfl ?_
  refine EW.extract rfl rfl rfl rfl rfl rfl rfl ?_
  refine EW.assign rfl rfl rfl rfl rfl rfl ?_
  refine EW.assign rfl rfl rfl rfl rfl rfl ?_
  refine EW.done ?_
  refine NW.seq ?_
  refine KW.seq ?_
  refine KW.seq ?_
  refine CW.region (S := noS) [(0, .q), (1, .q)] rfl ?_
  refine EW.move rfl rfl rfl rfl rfl rfl ?_
  refine EW.bin rfl rfl rfl rfl rfl rfl rfl BV.ptr_eqnil ?_
  refine EW.done ?_
  refine NW.seq ?_
  refine CW.cond_f rfl (rfl) ?_
  rw [List.append_nil] at hs
  simp only [pgR, rgR, List.cons_append, List.nil_append] at hs
  obtain ⟨AN, cN, rfl, _⟩ := own_sl (hs.res 4 rfl)
  obtain ⟨AE, cE, rfl, _⟩ := own_sl (hs.res 5 rfl)
  refine KW.skip ?_
  refine NW.seq ?_
  refine KW.seq ?_
  refine CW.region (S := noS) [(0, .q), (1, .l), (2, .q)] rfl ?_
  refine EW.move rfl rfl rfl rfl rfl rfl ?_
  refine EW.callT1 (Parts_spec _ b mb ps g (PGA.of hs 0 1 2 rfl rfl rfl) hps hok hbig (by omega) hgs.nm (hgl.stay hs.keep)) rfl rfl rfl rfl rfl Tryz.func8 bd8 nm8 rfl ?_
  intro v27 w hk27 hp27
  obtain ⟨xss, hip, qs, hq, hst⟩ := hp27
  replace hs := hs.plus hst
  clear hst
  simp only [List.cons_append, List.nil_append] at hs
  obtain ⟨A27, c27, rfl, _⟩ := own_sl (hs.res 0 rfl)
  have hpn : xss.length ≤ 120 := Nat.le_trans (parts_num hip) hnl
  have hpl : ∀ p ∈ xss, p.length ≤ 120 := fun p hp => Nat.le_trans (part_len hip p hp) hnl
  have hqn0 : qs.length = xss.length := by have := congrArg List.length hq; simpa using this
  have hqn : qs.length ≤ 120 := by omega
  have hql1 : (qs.map (·.1)).length = qs.length := by simp
  rw [hql1] at hs ⊢
  refine EW.assign rfl rfl rfl rfl rfl rfl ?_
  refine EW.done ?_
  refine NW.seq ?_
  refine KW.seq ?_
  refine CW.region (S := noS) [(0, .q), (1, .l), (2, .q)] rfl ?_
  refine EW.move rfl rfl rfl rfl rfl rfl ?_
  refine EW.callT1 (Back_spec _ b mb ps g (PGA.of hs 2 3 4 rfl rfl rfl) hps hok hbig hgs.nm (hgl.stay hs.keep)) rfl rfl rfl rfl rfl Tryz.func20 bd20 nm20 rfl ?_
  intro v29 w hk29 hp29
  obtain ⟨ps2, g2, ⟨b3, mb3, rfl, hst⟩, hps2, hok2, hN2, hE2⟩ := hp29
  replace hs := hs.plus hst
  clear hst
  simp only [pgR, List.cons_append, List.nil_append] at hs
  have hnl2 : g2.N.length ≤ 120 := Nat.le_trans (nodup_sub_len g2.N g.N hok2.nodup (fun a ha => (hN2 a).1 ha)) hnl
  have hel2 : g2.E.length ≤ 120 := by
    have := nodup_sub_len (g2.E.map fun e => (e.2, e.1)) g.E (List.Pairwise.map _ (fun a b hab he => hab (by cases a; cases b; simp at he ⊢; exact ⟨he.2, he.1⟩)) hok2.enodup) (fun e he => by
      obtain ⟨e', he', rfl⟩ := List.mem_map.1 he
      exact (hE2 e'.1 e'.2).1 he')
    simp only [List.length_map] at this
    omega
  have hsm2 : ∀ a ∈ g2.N, Cw.Sm a := fun a ha => hgs.nm a ((hN2 a).1 ha)
  have hbig2 : g2.Big 100000 := ⟨by omega, fun e he => ⟨hsm2 _ (hok2.wf e he).1, hsm2 _ (hok2.wf e he).2⟩⟩
  have hrc : ∀ a b, Rc g2.E a b ↔ Rc g.E b a := fun a b => by
    have h1 : ∀ e, e ∈ g2.E ↔ e ∈ g.E.map fun e => (e.2, e.1) := fun e => by
      rw [List.mem_map]
      constructor
      · intro he; exact ⟨(e.2, e.1), (hE2 e.1 e.2).1 he, rfl⟩
      · rintro ⟨e', he', rfl⟩; exact (hE2 e'.2 e'.1).2 he'
    exact ⟨fun h => (rc_same (fun e he => (h1 e).1 he) h).unback, fun h => rc_same (fun e he => (h1 e).2 he) h.back⟩
  have hip2 : IsParts g2.N g2.E xss := ⟨hip.sorted, hip.ne, hip.order, fun a => by rw [hN2, hip.all], fun p hp a ha b => by rw [hip.cls p hp a ha b, hrc, hrc, and_comm]⟩
  refine EW.assign rfl rfl rfl rfl rfl rfl ?_
  refine EW.done ?_
  refine NW.seq ?_
  refine KW.seq ?_
  refine KW.seq ?_
  refine CW.region (S := noS) [(0, .q), (1, .q), (2, .q), (3, .q), (4, .l), (5, .q), (6, .l), (7, .q), (8, .q)] rfl ?_
  refine EW.move rfl rfl rfl rfl rfl rfl ?_
  refine EW.bin rfl rfl rfl rfl rfl rfl rfl BV.ptr_eqnil ?_
  refine EW.move rfl rfl rfl rfl rfl rfl ?_
  refine EW.move rfl rfl rfl rfl rfl rfl ?_
  refine EW.callT1 (Parts_spec _ b3 mb3 ps2 g2 (PGA.of hs 0 1 2 rfl rfl rfl) hps2 hok2 hbig2 (by omega) hsm2 (hgl.stay hs.keep)) rfl rfl rfl rfl rfl Tryz.func8 bd8 nm8 rfl ?_
  intro v34 w hk34 hp34
  obtain ⟨xss3, hip3, rs, hr, hst⟩ := hp34
  rw [parts_unique hip3 hip2] at hr
  replace hs := hs.plus hst
  clear hst
  simp only [List.cons_append, List.nil_append] at hs
  obtain ⟨A34, c34, rfl, _⟩ := own_sl (hs.res 0 rfl)
  have hrn : rs.length ≤ 120 := (by have := congrArg List.length hr; simp only [List.length_map] at this; omega)
  have hrl1 : (rs.map (·.1)).length = rs.length := (by simp)
  rw [hrl1] at hs ⊢
  refine EW.move rfl rfl rfl rfl rfl rfl ?_
  refine EW.callT1 (sameAll_spec _ _ _ _ _ rs qs (RowsA.of hs 0 1 rfl rfl) (RowsA.of hs 5 6 rfl rfl) (by omega) (by omega) (fun p hp => Nat.le_trans (hpl _ (by rw [← hr]; exact List.mem_map.2 ⟨p, hp, rfl⟩)) (by omega)) (fun p hp => Nat.le_trans (hpl _ (by rw [← hq]; exact List.mem_map.2 ⟨p, hp, rfl⟩)) (by omega))) rfl rfl rfl rfl rfl Tryz.func11 bd11 nm11 rfl ?_
  intro v36 w hk36 hp36
  subst hp36
  replace hs := hs.stay hk36
  rw [decide_eq_true (hr.trans hq.symm)]
  refine EW.not rfl rfl rfl rfl rfl rfl ?_
  refine EW.pick rfl rfl rfl rfl rfl rfl rfl ?_
  refine EW.done ?_
  refine NW.seq ?_
  refine CW.cond_f rfl (rfl) ?_
  refine KW.skip ?_
  refine NW.seq ?_
  refine KW.seq ?_
  refine CW.region (S := noS) [(0, .q)] rfl ?_
  refine EW.assign rfl rfl rfl rfl rfl rfl ?_
  refine EW.done ?_
  refine NW.seq ?_
  refine KW.seq ?_
  refine KW.seq ?_
  refine CW.region (S := noS) [(0, .q)] rfl ?_
  refine EW.assign rfl rfl rfl rfl rfl rfl ?_
  refine EW.done ?_
  refine NW.seq ?_
  refine KW.block ?_
  replace hs := (hs.pick [5, 6, 7, 8, 9, 10, 11, 12] (by decide)).nil elL
  simp only [List.filterMap_cons, List.filterMap_nil, List.getElem?_cons_succ, List.getElem?_cons_zero] at hs
  have hfit := PartsFit.of hip
  have hfn := flat_nodup hip
  have hflen := flat_len hip hok.nodup
  have hxq : ∀ (i : Nat) (sv : SV) (p : List Lab), qs[i]? = some (sv, p) → xss[i]? = some p := fun i sv p h => by rw [← hq, List.getElem?_map, h]; rfl
  have hnm : ∀ p ∈ xss, ∀ a ∈ p, a ∈ g.N := fun p hp a ha => (hip.all a).2 ⟨p, hp, ha⟩
  refine KW.loop (ι := Nat × Value) (fun i => qs.length - i.1) (fun i => [(3, .pointer (some ⟨b, 0, none⟩)), (4, .pointer (some ⟨b2, 0, none⟩)), (5, .slice A27 qs.length c27), (7, i.2), (8, .int .i64 (i.1 : Int))]) (fun i w => i.1 ≤ qs.length ∧ St w0 noS w (own elL i.2 (xss.take i.1).flatten :: own elP (.slice A27 qs.length c27) (qs.map (·.1)) :: rows elL qs :: (pgR b mb ps ++ rgR b2 (.slice AN g.N.length cN) (.slice AE g.E.length cE) g))) (0, .slice none 0 0) (by repeat (first | exact trivial | (refine ⟨by first | rfl | (congr 2; omega) | (simp; done) | (congr 1; simp; done), ?_⟩))) ?_ ?_
  · exact ⟨Nat.zero_le _, hs⟩
  clear hs
  rintro ⟨i, v7⟩ w ⟨hi, hs⟩
  dsimp only at hi hs
  refine KW.seq ?_
  refine KW.seq ?_
  refine CW.region (S := noS) [(0, .q), (1, .q), (2, .q), (3, .q)] rfl ?_
  refine EW.move rfl rfl rfl rfl rfl rfl ?_
  refine EW.move rfl rfl rfl rfl rfl rfl ?_
  refine EW.len rfl rfl rfl rfl rfl rfl ?_
  refine EW.bin rfl rfl rfl rfl rfl rfl rfl BV.lss ?_
  refine EW.done ?_
  refine NW.seq ?_
  by_cases hin : i < qs.length
  · refine CW.cond_t rfl (by simpa using hin) ?_
    obtain ⟨⟨⟨Ai, ni, ci⟩, pi⟩, hqi⟩ : ∃ p, qs[i]? = some p := ⟨_, List.getElem?_eq_getElem hin⟩
    obtain ⟨hsi, hni, _⟩ := hs.rowSl 2 rfl hqi
    dsimp only at hsi hni
    subst hni
    have hxi := hxq i _ _ hqi
    have hpm : pi ∈ xss := List.mem_of_getElem? hxi
    have hpil := hpl pi hpm
    have hpne : 0 < pi.length := List.length_pos_iff.2 (hip.ne pi hpm)
    obtain ⟨ai, rfl, _, _⟩ := hsi.at_ hpne
    obtain ⟨ao, rfl, _, _⟩ := (hs.sl 1 rfl).at_ (i := i) (by rw [hql1]; exact hin)
    obtain ⟨x0, hx0⟩ : ∃ x0, pi[0]? = some x0 := ⟨_, List.getElem?_eq_getElem hpne⟩
    refine KW.skip ?_
    refine NW.seq ?_
    refine KW.seq ?_
    refine KW.block ?_
    refine KW.cut (ι := Unit) (fun _ => [(3, .pointer (some ⟨b, 0, none⟩)), (4, .pointer (some ⟨b2, 0, none⟩)), (5, .slice (some ao) qs.length c27), (7, v7), (8, .int .i64 (i : Int))]) (fun _ w => St w0 noS w (own elL v7 (xss.take i).flatten :: own elP (.slice (some ao) qs.length c27) (qs.map (·.1)) :: rows elL qs :: (pgR b mb ps ++ rgR b2 (.slice AN g.N.length cN) (.slice AE g.E.length cE) g))) ?_ ?_
    · skip
      have hra := RowsA.of hs 1 2 rfl rfl
      have gi := hra.hd hqi
      have gx : LDP Tryz.prog w 44 (ai.add ((0 : Int).toNat * 2)) (encL x0) := hra.el (k := 0) hqi hx0
      refine KW.seq ?_
      refine CW.regionD (noS) [(0, .q), (1, .q), (2, .q), (3, .q), (4, .q), (5, .q), (6, .q), (7, .q), (8, .q), (9, .q), (10, .q), (11, .q), (12, .q), (13, .q), (14, .q), (15, .q), (16, .q), (17, .q), (18, .q), (19, .q), (20, .q), (21, .q), (22, .q), (23, .l), (24, .q), (25, .q), (26, .q)] mixed (by kernel_rfl) ?_
      replace hs := hs.drew
      refine EW.move rfl rfl rfl rfl rfl rfl ?_
      refine EW.move rfl rfl rfl rfl rfl rfl ?_
      refine EW.indexAddr rfl rfl rfl rfl rfl rfl rfl (by omega) (by omega) ?_
      refine EW.loadP rfl rfl rfl rfl rfl rfl (by first | assumption | (apply LDP.drew; assumption) | exact St.ld1 hs 0 rfl rfl | exact St.ldA hs 0 rfl rfl rfl | exact St.ld1 hs 1 rfl rfl | exact St.ldA hs 1 rfl rfl rfl | exact St.ld1 hs 2 rfl rfl | exact St.ldA hs 2 rfl rfl rfl | exact St.ld1 hs 3 rfl rfl | exact St.ldA hs 3 rfl rfl rfl | exact St.ld1 hs 4 rfl rfl | exact St.ldA hs 4 rfl rfl rfl | exact St.ld1 hs 5 rfl rfl | exact St.ldA hs 5 rfl rfl rfl | exact St.ld1 hs 6 rfl rfl | exact St.ldA hs 6 rfl rfl rfl) (by first | exact .inl rfl | exact .inr (fun h => h)) ?_
      refine EW.len rfl rfl rfl rfl rfl rfl ?_
      refine EW.bin rfl rfl rfl rfl rfl rfl rfl BV.eqi ?_
      rw [show decide (((pi.length : Nat) : Int) = 0) = false from decide_eq_false (by omega)]
      refine EW.move rfl rfl rfl rfl rfl rfl ?_
      refine EW.move rfl rfl rfl rfl rfl rfl ?_
      refine EW.bin rfl rfl rfl rfl rfl rfl rfl BV.gtr ?_
      refine EW.move rfl rfl rfl rfl rfl rfl ?_
      refine EW.caseB (fun h54 => ?_) (fun h54 => ?_)
      · skip
        have hi0 : 0 < i := by simpa using h54
        obtain ⟨⟨⟨Aj, nj, cj⟩, pj⟩, hqj⟩ : ∃ p, qs[i - 1]? = some p := ⟨_, List.getElem?_eq_getElem (by omega)⟩
        obtain ⟨hsj, hnj, _⟩ := hs.rowSl 2 rfl hqj
        dsimp only at hsj hnj
        subst hnj
        have hxj := hxq _ _ _ hqj
        have hjm : pj ∈ xss := List.mem_of_getElem? hxj
        have hpjl := hpl pj hjm
        have hjne : 0 < pj.length := List.length_pos_iff.2 (hip.ne pj hjm)
        obtain ⟨aj, rfl, _, _⟩ := hsj.at_ hjne
        obtain ⟨y0, hy0⟩ : ∃ y0, pj[0]? = some y0 := ⟨_, List.getElem?_eq_getElem hjne⟩
        have gj : LDP Tryz.prog w (30) (ao.add ((((i - 1 : Nat) : Int)).toNat * 1)) (.slice (some aj) pj.length cj) := hra.hd hqj
        have gy : LDP Tryz.prog w 44 (aj.add ((0 : Int).toNat * 2)) (encL y0) := hra.el (k := 0) hqj hy0
        have gj := gj.drew
        have gy := gy.drew
        have hlt := hfit.lt (i - 1) pj pi y0 x0 hxj (by rw [show i - 1 + 1 = i from by omega]; exact hxi) hy0 hx0
        refine EW.move rfl rfl rfl rfl rfl rfl ?_
        refine EW.move rfl rfl rfl rfl rfl rfl ?_
        refine EW.bin rfl rfl rfl rfl rfl rfl rfl (BV.sub (c := ((i - 1 : Nat) : Int)) (by rw [wrap_i64 (by omega) (by omega)]; omega)) ?_
        refine EW.indexAddr rfl rfl rfl rfl rfl rfl rfl (by omega) (by omega) ?_
        refine EW.loadP rfl rfl rfl rfl rfl rfl (by first | assumption | (apply LDP.drew; assumption) | exact St.ld1 hs 0 rfl rfl | exact St.ldA hs 0 rfl rfl rfl | exact St.ld1 hs 1 rfl rfl | exact St.ldA hs 1 rfl rfl rfl | exact St.ld1 hs 2 rfl rfl | exact St.ldA hs 2 rfl rfl rfl | exact St.ld1 hs 3 rfl rfl | exact St.ldA hs 3 rfl rfl rfl | exact St.ld1 hs 4 rfl rfl | exact St.ldA hs 4 rfl rfl rfl | exact St.ld1 hs 5 rfl rfl | exact St.ldA hs 5 rfl rfl rfl | exact St.ld1 hs 6 rfl rfl | exact St.ldA hs 6 rfl rfl rfl) (by first | exact .inl rfl | exact .inr (fun h => h)) ?_
        refine EW.indexAddr rfl rfl rfl rfl rfl rfl rfl (by omega) (by omega) ?_
        refine EW.loadP rfl rfl rfl rfl rfl rfl (by first | assumption | (apply LDP.drew; assumption) | exact St.ld1 hs 0 rfl rfl | exact St.ldA hs 0 rfl rfl rfl | exact St.ld1 hs 1 rfl rfl | exact St.ldA hs 1 rfl rfl rfl | exact St.ld1 hs 2 rfl rfl | exact St.ldA hs 2 rfl rfl rfl | exact St.ld1 hs 3 rfl rfl | exact St.ldA hs 3 rfl rfl rfl | exact St.ld1 hs 4 rfl rfl | exact St.ldA hs 4 rfl rfl rfl | exact St.ld1 hs 5 rfl rfl | exact St.ldA hs 5 rfl rfl rfl | exact St.ld1 hs 6 rfl rfl | exact St.ldA hs 6 rfl rfl rfl) (by first | exact .inl rfl | exact .inr (fun h => h)) ?_
        refine EW.move rfl rfl rfl rfl rfl rfl ?_
        refine EW.move rfl rfl rfl rfl rfl rfl ?_
        refine EW.indexAddr rfl rfl rfl rfl rfl rfl rfl (by omega) (by omega) ?_
        refine EW.loadP rfl rfl rfl rfl rfl rfl (by first | assumption | (apply LDP.drew; assumption) | exact St.ld1 hs 0 rfl rfl | exact St.ldA hs 0 rfl rfl rfl | exact St.ld1 hs 1 rfl rfl | exact St.ldA hs 1 rfl rfl rfl | exact St.ld1 hs 2 rfl rfl | exact St.ldA hs 2 rfl rfl rfl | exact St.ld1 hs 3 rfl rfl | exact St.ldA hs 3 rfl rfl rfl | exact St.ld1 hs 4 rfl rfl | exact St.ldA hs 4 rfl rfl rfl | exact St.ld1 hs 5 rfl rfl | exact St.ldA hs 5 rfl rfl rfl | exact St.ld1 hs 6 rfl rfl | exact St.ldA hs 6 rfl rfl rfl) (by first | exact .inl rfl | exact .inr (fun h => h)) ?_
        refine EW.indexAddr rfl rfl rfl rfl rfl rfl rfl (by omega) (by omega) ?_
        refine EW.loadP rfl rfl rfl rfl rfl rfl (by first | assumption | (apply LDP.drew; assumption) | exact St.ld1 hs 0 rfl rfl | exact St.ldA hs 0 rfl rfl rfl | exact St.ld1 hs 1 rfl rfl | exact St.ldA hs 1 rfl rfl rfl | exact St.ld1 hs 2 rfl rfl | exact St.ldA hs 2 rfl rfl rfl | exact St.ld1 hs 3 rfl rfl | exact St.ldA hs 3 rfl rfl rfl | exact St.ld1 hs 4 rfl rfl | exact St.ldA hs 4 rfl rfl rfl | exact St.ld1 hs 5 rfl rfl | exact St.ldA hs 5 rfl rfl rfl | exact St.ld1 hs 6 rfl rfl | exact St.ldA hs 6 rfl rfl rfl) (by first | exact .inl rfl | exact .inr (fun h => h)) ?_
        refine EW.callT1 (refLess_spec _ y0 x0 (hgs.nm _ (hnm pj hjm _ (List.mem_of_getElem? hy0))) (hgs.nm _ (hnm pi hpm _ (List.mem_of_getElem? hx0)))) rfl rfl rfl rfl rfl Tryz.func21 bd21 nm21 rfl ?_
        intro v68 w hk68 hp68
        subst hp68
        replace hs := hs.stay hk68
        rw [hlt]
        refine EW.not rfl rfl rfl rfl rfl rfl ?_
        refine EW.pick rfl rfl rfl rfl rfl rfl rfl ?_
        refine EW.pick rfl rfl rfl rfl rfl rfl rfl ?_
        refine EW.done ?_
        refine NW.seq ?_
        refine CW.cond_f rfl (rfl) ?_
        refine KW.skip ?_
        refine NW.meet (()) (by repeat (first | exact trivial | (refine ⟨by first | rfl | (congr 2; omega) | (simp; done) | (congr 1; simp; done), ?_⟩))) ?_
        try dsimp only
        exact hs
      · skip
        refine EW.off rfl rfl rfl rfl ?_
        refine EW.off rfl rfl rfl rfl ?_
        refine EW.off rfl rfl rfl rfl ?_
        refine EW.off rfl rfl rfl rfl ?_
        refine EW.off rfl rfl rfl rfl ?_
        refine EW.off rfl rfl rfl rfl ?_
        refine EW.off rfl rfl rfl rfl ?_
        refine EW.off rfl rfl rfl rfl ?_
        refine EW.off rfl rfl rfl rfl ?_
        refine EW.off rfl rfl rfl rfl ?_
        refine EW.off rfl rfl rfl rfl ?_
        refine EW.off rfl rfl rfl rfl ?_
        refine EW.off rfl rfl rfl rfl ?_
        refine EW.off rfl rfl rfl rfl ?_
        refine EW.off rfl rfl rfl rfl ?_
        refine EW.pick rfl rfl rfl rfl rfl rfl rfl ?_
        refine EW.pick rfl rfl rfl rfl rfl rfl rfl ?_
        refine EW.done ?_
        refine NW.seq ?_
        refine CW.cond_f rfl (rfl) ?_
        refine KW.skip ?_
        refine NW.meet (()) (by repeat (first | exact trivial | (refine ⟨by first | rfl | (congr 2; omega) | (simp; done) | (congr 1; simp; done), ?_⟩))) ?_
        try dsimp only
        exact hs
    · skip
      rintro ⟨⟩ w hs
      refine KW.seq ?_
      refine CW.region (S := noS) [(0, .q)] rfl ?_
      refine EW.assign rfl rfl rfl rfl rfl rfl ?_
      refine EW.done ?_
      refine NW.seq ?_
      refine KW.block ?_
      refine KW.loop (ι := Nat × Value) (fun i => pi.length - i.1) (fun j => [(3, .pointer (some ⟨b, 0, none⟩)), (4, .pointer (some ⟨b2, 0, none⟩)), (5, .slice (some ao) qs.length c27), (7, j.2), (8, .int .i64 (i : Int)), (9, .int .i64 (j.1 : Int))]) (fun j w => j.1 ≤ pi.length ∧ St w0 noS w (own elL j.2 ((xss.take i).flatten ++ pi.take j.1) :: own elP (.slice (some ao) qs.length c27) (qs.map (·.1)) :: rows elL qs :: (pgR b mb ps ++ rgR b2 (.slice AN g.N.length cN) (.slice AE g.E.length cE) g))) (0, v7) (by repeat (first | exact trivial | (refine ⟨by first | rfl | (congr 2; omega) | (simp; done) | (congr 1; simp; done), ?_⟩))) ?_ ?_
      · exact ⟨Nat.zero_le _, by rw [List.take_zero, List.append_nil]; exact hs⟩
      clear hs
      rintro ⟨k, v7⟩ w ⟨hk, hs⟩
      dsimp only at hk hs
      have gi := (RowsA.of hs 1 2 rfl rfl).hd hqi
      refine KW.seq ?_
      refine KW.seq ?_
      refine CW.region (S := noS) [(0, .q), (1, .q), (2, .q), (3, .q), (4, .q), (5, .q), (6, .q)] rfl ?_
      refine EW.move rfl rfl rfl rfl rfl rfl ?_
      refine EW.move rfl rfl rfl rfl rfl rfl ?_
      refine EW.move rfl rfl rfl rfl rfl rfl ?_
      refine EW.indexAddr rfl rfl rfl rfl rfl rfl rfl (by omega) (by omega) ?_
      refine EW.loadP rfl rfl rfl rfl rfl rfl (by first | assumption | (apply LDP.drew; assumption) | exact St.ld1 hs 0 rfl rfl | exact St.ldA hs 0 rfl rfl rfl | exact St.ld1 hs 1 rfl rfl | exact St.ldA hs 1 rfl rfl rfl | exact St.ld1 hs 2 rfl rfl | exact St.ldA hs 2 rfl rfl rfl | exact St.ld1 hs 3 rfl rfl | exact St.ldA hs 3 rfl rfl rfl | exact St.ld1 hs 4 rfl rfl | exact St.ldA hs 4 rfl rfl rfl | exact St.ld1 hs 5 rfl rfl | exact St.ldA hs 5 rfl rfl rfl | exact St.ld1 hs 6 rfl rfl | exact St.ldA hs 6 rfl rfl rfl) (by first | exact .inl rfl | exact .inr (fun h => h)) ?_
      refine EW.len rfl rfl rfl rfl rfl rfl ?_
      refine EW.bin rfl rfl rfl rfl rfl rfl rfl BV.lss ?_
      refine EW.done ?_
      refine NW.seq ?_
      by_cases hkn : k < pi.length
      · refine CW.cond_t rfl (by simpa using hkn) ?_
        obtain ⟨x, hxk⟩ : ∃ x, pi[k]? = some x := ⟨_, List.getElem?_eq_getElem hkn⟩
        have hxm : x ∈ pi := List.mem_of_getElem? hxk
        have hxN := hnm pi hpm x hxm
        obtain ⟨hnew, hnlen⟩ := flat_new hfn hxi hxk
        rw [hflen] at hnlen
        obtain ⟨A7, c7, rfl, _⟩ := own_sl (hs.res 0 rfl)
        refine KW.skip ?_
        refine NW.seq ?_
        refine KW.seq ?_
        refine KW.block ?_
        refine KW.cut (ι := Unit) (fun _ => [(3, .pointer (some ⟨b, 0, none⟩)), (4, .pointer (some ⟨b2, 0, none⟩)), (5, .slice (some ao) qs.length c27), (7, .slice A7 ((xss.take i).flatten ++ pi.take k).length c7), (8, .int .i64 (i : Int)), (9, .int .i64 (k : Int))]) (fun _ w => St w0 noS w (own elL (.slice A7 ((xss.take i).flatten ++ pi.take k).length c7) ((xss.take i).flatten ++ pi.take k) :: own elP (.slice (some ao) qs.length c27) (qs.map (·.1)) :: rows elL qs :: (pgR b mb ps ++ rgR b2 (.slice AN g.N.length cN) (.slice AE g.E.length cE) g))) ?_ ?_
        · skip
          have hra := RowsA.of hs 1 2 rfl rfl
          have gi := hra.hd hqi
          have gx := hra.el hqi hxk
          refine KW.seq ?_
          refine CW.regionD (noS) [(0, .q), (1, .q), (2, .q), (3, .q), (4, .q), (5, .q), (6, .q), (7, .q), (8, .q), (9, .q), (10, .q), (11, .q), (12, .q), (13, .q), (14, .q), (15, .q), (16, .q), (17, .q), (18, .l), (19, .q), (20, .q), (21, .q), (22, .q), (23, .q), (24, .q), (25, .q), (26, .q), (27, .q), (28, .q), (29, .q), (30, .l), (31, .q)] mixed (by kernel_rfl) ?_
          replace hs := hs.drew
          refine EW.move rfl rfl rfl rfl rfl rfl ?_
          refine EW.bin rfl rfl rfl rfl rfl rfl rfl BV.gtr ?_
          refine EW.move rfl rfl rfl rfl rfl rfl ?_
          refine EW.caseB (fun h83 => ?_) (fun h83 => ?_)
          · skip
            have hk0 : 0 < k := by simpa using h83
            obtain ⟨y, hyk⟩ : ∃ y, pi[k - 1]? = some y := ⟨_, List.getElem?_eq_getElem (by omega)⟩
            have gy := hra.el hqi hyk
            have gy := gy.drew
            have hlt := hfit.so pi hpm (k - 1) y x hyk (by rw [show k - 1 + 1 = k from by omega]; exact hxk)
            refine EW.move rfl rfl rfl rfl rfl rfl ?_
            refine EW.move rfl rfl rfl rfl rfl rfl ?_
            refine EW.indexAddr rfl rfl rfl rfl rfl rfl rfl (by omega) (by omega) ?_
            refine EW.loadP rfl rfl rfl rfl rfl rfl (by first | assumption | (apply LDP.drew; assumption) | exact St.ld1 hs 0 rfl rfl | exact St.ldA hs 0 rfl rfl rfl | exact St.ld1 hs 1 rfl rfl | exact St.ldA hs 1 rfl rfl rfl | exact St.ld1 hs 2 rfl rfl | exact St.ldA hs 2 rfl rfl rfl | exact St.ld1 hs 3 rfl rfl | exact St.ldA hs 3 rfl rfl rfl | exact St.ld1 hs 4 rfl rfl | exact St.ldA hs 4 rfl rfl rfl | exact St.ld1 hs 5 rfl rfl | exact St.ldA hs 5 rfl rfl rfl | exact St.ld1 hs 6 rfl rfl | exact St.ldA hs 6 rfl rfl rfl) (by first | exact .inl rfl | exact .inr (fun h => h)) ?_
            refine EW.move rfl rfl rfl rfl rfl rfl ?_
            refine EW.bin rfl rfl rfl rfl rfl rfl rfl (BV.sub (c := ((k - 1 : Nat) : Int)) (by rw [wrap_i64 (by omega) (by omega)]; omega)) ?_
            refine EW.indexAddr rfl rfl rfl rfl rfl rfl rfl (by omega) (by omega) ?_
            refine EW.loadP rfl rfl rfl rfl rfl rfl (by first | assumption | (apply LDP.drew; assumption) | exact St.ld1 hs 0 rfl rfl | exact St.ldA hs 0 rfl rfl rfl | exact St.ld1 hs 1 rfl rfl | exact St.ldA hs 1 rfl rfl rfl | exact St.ld1 hs 2 rfl rfl | exact St.ldA hs 2 rfl rfl rfl | exact St.ld1 hs 3 rfl rfl | exact St.ldA hs 3 rfl rfl rfl | exact St.ld1 hs 4 rfl rfl | exact St.ldA hs 4 rfl rfl rfl | exact St.ld1 hs 5 rfl rfl | exact St.ldA hs 5 rfl rfl rfl | exact St.ld1 hs 6 rfl rfl | exact St.ldA hs 6 rfl rfl rfl) (by first | exact .inl rfl | exact .inr (fun h => h)) ?_
            refine EW.move rfl rfl rfl rfl rfl rfl ?_
            refine EW.move rfl rfl rfl rfl rfl rfl ?_
            refine EW.indexAddr rfl rfl rfl rfl rfl rfl rfl (by omega) (by omega) ?_
            refine EW.loadP rfl rfl rfl rfl rfl rfl (by first | assumption | (apply LDP.drew; assumption) | exact St.ld1 hs 0 rfl rfl | exact St.ldA hs 0 rfl rfl rfl | exact St.ld1 hs 1 rfl rfl | exact St.ldA hs 1 rfl rfl rfl | exact St.ld1 hs 2 rfl rfl | exact St.ldA hs 2 rfl rfl rfl | exact St.ld1 hs 3 rfl rfl | exact St.ldA hs 3 rfl rfl rfl | exact St.ld1 hs 4 rfl rfl | exact St.ldA hs 4 rfl rfl rfl | exact St.ld1 hs 5 rfl rfl | exact St.ldA hs 5 rfl rfl rfl | exact St.ld1 hs 6 rfl rfl | exact St.ldA hs 6 rfl rfl rfl) (by first | exact .inl rfl | exact .inr (fun h => h)) ?_
            refine EW.move rfl rfl rfl rfl rfl rfl ?_
            refine EW.indexAddr rfl rfl rfl rfl rfl rfl rfl (by omega) (by omega) ?_
            refine EW.loadP rfl rfl rfl rfl rfl rfl (by first | assumption | (apply LDP.drew; assumption) | exact St.ld1 hs 0 rfl rfl | exact St.ldA hs 0 rfl rfl rfl | exact St.ld1 hs 1 rfl rfl | exact St.ldA hs 1 rfl rfl rfl | exact St.ld1 hs 2 rfl rfl | exact St.ldA hs 2 rfl rfl rfl | exact St.ld1 hs 3 rfl rfl | exact St.ldA hs 3 rfl rfl rfl | exact St.ld1 hs 4 rfl rfl | exact St.ldA hs 4 rfl rfl rfl | exact St.ld1 hs 5 rfl rfl | exact St.ldA hs 5 rfl rfl rfl | exact St.ld1 hs 6 rfl rfl | exact St.ldA hs 6 rfl rfl rfl) (by first | exact .inl rfl | exact .inr (fun h => h)) ?_
            refine EW.callT1 (refLess_spec _ y x (hgs.nm _ (hnm pi hpm _ (List.mem_of_getElem? hyk))) (hgs.nm _ hxN)) rfl rfl rfl rfl rfl Tryz.func21 bd21 nm21 rfl ?_
            intro v99 w hk99 hp99
            subst hp99
            replace hs := hs.stay hk99
            rw [hlt]
            have hra := RowsA.of hs 1 2 rfl rfl
            have gi := hra.hd hqi
            have gx := hra.el hqi hxk
            refine EW.not rfl rfl rfl rfl rfl rfl ?_
            refine EW.pick rfl rfl rfl rfl rfl rfl rfl ?_
            refine EW.move rfl rfl rfl rfl rfl rfl ?_
            refine EW.move rfl rfl rfl rfl rfl rfl ?_
            refine EW.move rfl rfl rfl rfl rfl rfl ?_
            refine EW.move rfl rfl rfl rfl rfl rfl ?_
            refine EW.indexAddr rfl rfl rfl rfl rfl rfl rfl (by omega) (by omega) ?_
            refine EW.loadP rfl rfl rfl rfl rfl rfl (by first | assumption | (apply LDP.drew; assumption) | exact St.ld1 hs 0 rfl rfl | exact St.ldA hs 0 rfl rfl rfl | exact St.ld1 hs 1 rfl rfl | exact St.ldA hs 1 rfl rfl rfl | exact St.ld1 hs 2 rfl rfl | exact St.ldA hs 2 rfl rfl rfl | exact St.ld1 hs 3 rfl rfl | exact St.ldA hs 3 rfl rfl rfl | exact St.ld1 hs 4 rfl rfl | exact St.ldA hs 4 rfl rfl rfl | exact St.ld1 hs 5 rfl rfl | exact St.ldA hs 5 rfl rfl rfl | exact St.ld1 hs 6 rfl rfl | exact St.ldA hs 6 rfl rfl rfl) (by first | exact .inl rfl | exact .inr (fun h => h)) ?_
            refine EW.move rfl rfl rfl rfl rfl rfl ?_
            refine EW.indexAddr rfl rfl rfl rfl rfl rfl rfl (by omega) (by omega) ?_
            refine EW.loadP rfl rfl rfl rfl rfl rfl (by first | assumption | (apply LDP.drew; assumption) | exact St.ld1 hs 0 rfl rfl | exact St.ldA hs 0 rfl rfl rfl | exact St.ld1 hs 1 rfl rfl | exact St.ldA hs 1 rfl rfl rfl | exact St.ld1 hs 2 rfl rfl | exact St.ldA hs 2 rfl rfl rfl | exact St.ld1 hs 3 rfl rfl | exact St.ldA hs 3 rfl rfl rfl | exact St.ld1 hs 4 rfl rfl | exact St.ldA hs 4 rfl rfl rfl | exact St.ld1 hs 5 rfl rfl | exact St.ldA hs 5 rfl rfl rfl | exact St.ld1 hs 6 rfl rfl | exact St.ldA hs 6 rfl rfl rfl) (by first | exact .inl rfl | exact .inr (fun h => h)) ?_
            refine EW.callT1 (In_spec _ _ _ _ _ (hs.sl 0 rfl) (by omega)) rfl rfl rfl rfl rfl Tryz.func22 bd22 nm22 rfl ?_
            intro v111 w hk111 hp111
            subst hp111
            replace hs := hs.stay hk111
            rw [decide_eq_false hnew]
            refine EW.pick rfl rfl rfl rfl rfl rfl rfl ?_
            refine EW.done ?_
            refine NW.seq ?_
            refine CW.cond_f rfl (rfl) ?_
            refine KW.skip ?_
            refine NW.meet (()) (by repeat (first | exact trivial | (refine ⟨by first | rfl | (congr 2; omega) | (simp; done) | (congr 1; simp; done), ?_⟩))) ?_
            try dsimp only
            exact hs
          · skip
            refine EW.off rfl rfl rfl rfl ?_
            refine EW.off rfl rfl rfl rfl ?_
            refine EW.off rfl rfl rfl rfl ?_
            refine EW.off rfl rfl rfl rfl ?_
            refine EW.off rfl rfl rfl rfl ?_
            refine EW.off rfl rfl rfl rfl ?_
            refine EW.off rfl rfl rfl rfl ?_
            refine EW.off rfl rfl rfl rfl ?_
            refine EW.off rfl rfl rfl rfl ?_
            refine EW.off rfl rfl rfl rfl ?_
            refine EW.off rfl rfl rfl rfl ?_
            refine EW.off rfl rfl rfl rfl ?_
            refine EW.off rfl rfl rfl rfl ?_
            refine EW.off rfl rfl rfl rfl ?_
            refine EW.off rfl rfl rfl rfl ?_
            refine EW.off rfl rfl rfl rfl ?_
            refine EW.off rfl rfl rfl rfl ?_
            refine EW.pick rfl rfl rfl rfl rfl rfl rfl ?_
            refine EW.move rfl rfl rfl rfl rfl rfl ?_
            refine EW.move rfl rfl rfl rfl rfl rfl ?_
            refine EW.move rfl rfl rfl rfl rfl rfl ?_
            refine EW.move rfl rfl rfl rfl rfl rfl ?_
            refine EW.indexAddr rfl rfl rfl rfl rfl rfl rfl (by omega) (by omega) ?_
            refine EW.loadP rfl rfl rfl rfl rfl rfl (by first | assumption | (apply LDP.drew; assumption) | exact St.ld1 hs 0 rfl rfl | exact St.ldA hs 0 rfl rfl rfl | exact St.ld1 hs 1 rfl rfl | exact St.ldA hs 1 rfl rfl rfl | exact St.ld1 hs 2 rfl rfl | exact St.ldA hs 2 rfl rfl rfl | exact St.ld1 hs 3 rfl rfl | exact St.ldA hs 3 rfl rfl rfl | exact St.ld1 hs 4 rfl rfl | exact St.ldA hs 4 rfl rfl rfl | exact St.ld1 hs 5 rfl rfl | exact St.ldA hs 5 rfl rfl rfl | exact St.ld1 hs 6 rfl rfl | exact St.ldA hs 6 rfl rfl rfl) (by first | exact .inl rfl | exact .inr (fun h => h)) ?_
            refine EW.move rfl rfl rfl rfl rfl rfl ?_
            refine EW.indexAddr rfl rfl rfl rfl rfl rfl rfl (by omega) (by omega) ?_
            refine EW.loadP rfl rfl rfl rfl rfl rfl (by first | assumption | (apply LDP.drew; assumption) | exact St.ld1 hs 0 rfl rfl | exact St.ldA hs 0 rfl rfl rfl | exact St.ld1 hs 1 rfl rfl | exact St.ldA hs 1 rfl rfl rfl | exact St.ld1 hs 2 rfl rfl | exact St.ldA hs 2 rfl rfl rfl | exact St.ld1 hs 3 rfl rfl | exact St.ldA hs 3 rfl rfl rfl | exact St.ld1 hs 4 rfl rfl | exact St.ldA hs 4 rfl rfl rfl | exact St.ld1 hs 5 rfl rfl | exact St.ldA hs 5 rfl rfl rfl | exact St.ld1 hs 6 rfl rfl | exact St.ldA hs 6 rfl rfl rfl) (by first | exact .inl rfl | exact .inr (fun h => h)) ?_
            refine EW.callT1 (In_spec _ _ _ _ _ (hs.sl 0 rfl) (by omega)) rfl rfl rfl rfl rfl Tryz.func22 bd22 nm22 rfl ?_
            intro v111 w hk111 hp111
            subst hp111
            replace hs := hs.stay hk111
            rw [decide_eq_false hnew]
            refine EW.pick rfl rfl rfl rfl rfl rfl rfl ?_
            refine EW.done ?_
            refine NW.seq ?_
            refine CW.cond_f rfl (rfl) ?_
            refine KW.skip ?_
            refine NW.meet (()) (by repeat (first | exact trivial | (refine ⟨by first | rfl | (congr 2; omega) | (simp; done) | (congr 1; simp; done), ?_⟩))) ?_
            try dsimp only
            exact hs
        · skip
          rintro ⟨⟩ w hs
          have hra := RowsA.of hs 1 2 rfl rfl
          have gi := hra.hd hqi
          have gx := hra.el hqi hxk
          refine KW.seq ?_
          refine CW.region (S := noS) [(0, .q), (1, .q), (2, .q), (3, .q), (4, .q), (5, .q), (6, .q), (7, .q), (8, .l), (9, .l), (10, .q)] rfl ?_
          refine EW.move rfl rfl rfl rfl rfl rfl ?_
          refine EW.move rfl rfl rfl rfl rfl rfl ?_
          refine EW.move rfl rfl rfl rfl rfl rfl ?_
          refine EW.indexAddr rfl rfl rfl rfl rfl rfl rfl (by omega) (by omega) ?_
          refine EW.loadP rfl rfl rfl rfl rfl rfl (by first | assumption | (apply LDP.drew; assumption) | exact St.ld1 hs 0 rfl rfl | exact St.ldA hs 0 rfl rfl rfl | exact St.ld1 hs 1 rfl rfl | exact St.ldA hs 1 rfl rfl rfl | exact St.ld1 hs 2 rfl rfl | exact St.ldA hs 2 rfl rfl rfl | exact St.ld1 hs 3 rfl rfl | exact St.ldA hs 3 rfl rfl rfl | exact St.ld1 hs 4 rfl rfl | exact St.ldA hs 4 rfl rfl rfl | exact St.ld1 hs 5 rfl rfl | exact St.ldA hs 5 rfl rfl rfl | exact St.ld1 hs 6 rfl rfl | exact St.ldA hs 6 rfl rfl rfl) (by first | exact .inl rfl | exact .inr (fun h => h)) ?_
          refine EW.move rfl rfl rfl rfl rfl rfl ?_
          refine EW.indexAddr rfl rfl rfl rfl rfl rfl rfl (by omega) (by omega) ?_
          refine EW.loadP rfl rfl rfl rfl rfl rfl (by first | assumption | (apply LDP.drew; assumption) | exact St.ld1 hs 0 rfl rfl | exact St.ldA hs 0 rfl rfl rfl | exact St.ld1 hs 1 rfl rfl | exact St.ldA hs 1 rfl rfl rfl | exact St.ld1 hs 2 rfl rfl | exact St.ldA hs 2 rfl rfl rfl | exact St.ld1 hs 3 rfl rfl | exact St.ldA hs 3 rfl rfl rfl | exact St.ld1 hs 4 rfl rfl | exact St.ldA hs 4 rfl rfl rfl | exact St.ld1 hs 5 rfl rfl | exact St.ldA hs 5 rfl rfl rfl | exact St.ld1 hs 6 rfl rfl | exact St.ldA hs 6 rfl rfl rfl) (by first | exact .inl rfl | exact .inr (fun h => h)) ?_
          refine EW.lit1 elL (_) hs rfl rfl rfl rfl rfl rfl rfl ?_
          clear hs; intro b121 w hs
          first | refine EW.append1 elL 1 0 hs rfl rfl (by show _ * 32 ≤ 140737488355328; omega) (.inl rfl) rfl rfl rfl rfl rfl rfl rfl ?_ | refine EW.append1 elL 2 0 hs rfl rfl (by show _ * 32 ≤ 140737488355328; omega) (.inl rfl) rfl rfl rfl rfl rfl rfl rfl ?_ | refine EW.append1 elL 3 0 hs rfl rfl (by show _ * 32 ≤ 140737488355328; omega) (.inl rfl) rfl rfl rfl rfl rfl rfl rfl ?_ | refine EW.append1 elL 4 0 hs rfl rfl (by show _ * 32 ≤ 140737488355328; omega) (.inl rfl) rfl rfl rfl rfl rfl rfl rfl ?_ | refine EW.append1 elL 5 0 hs rfl rfl (by show _ * 32 ≤ 140737488355328; omega) (.inl rfl) rfl rfl rfl rfl rfl rfl rfl ?_ | refine EW.append1 elL 6 0 hs rfl rfl (by show _ * 32 ≤ 140737488355328; omega) (.inl rfl) rfl rfl rfl rfl rfl rfl rfl ?_ | refine EW.append1 elL 7 0 hs rfl rfl (by show _ * 32 ≤ 140737488355328; omega) (.inl rfl) rfl rfl rfl rfl rfl rfl rfl ?_
          clear hs; intro v122 w hs; dsimp only [List.set] at hs; replace hs := hs.tail
          obtain ⟨A122, c122, rfl, _⟩ := own_sl (hs.res 0 rfl)
          have hra := RowsA.of hs 1 2 rfl rfl
          have gi := hra.hd hqi
          have gx := hra.el hqi hxk
          refine EW.assign rfl rfl rfl rfl rfl rfl ?_
          refine EW.done ?_
          refine NW.seq ?_
          refine KW.seq ?_
          refine CW.region (S := noS) [(0, .q), (1, .q), (2, .q), (3, .q), (4, .q), (5, .q), (6, .q), (7, .q), (8, .l), (9, .l), (10, .q)] rfl ?_
          refine EW.move rfl rfl rfl rfl rfl rfl ?_
          refine EW.move rfl rfl rfl rfl rfl rfl ?_
          refine EW.move rfl rfl rfl rfl rfl rfl ?_
          refine EW.indexAddr rfl rfl rfl rfl rfl rfl rfl (by omega) (by omega) ?_
          refine EW.loadP rfl rfl rfl rfl rfl rfl (by first | assumption | (apply LDP.drew; assumption) | exact St.ld1 hs 0 rfl rfl | exact St.ldA hs 0 rfl rfl rfl | exact St.ld1 hs 1 rfl rfl | exact St.ldA hs 1 rfl rfl rfl | exact St.ld1 hs 2 rfl rfl | exact St.ldA hs 2 rfl rfl rfl | exact St.ld1 hs 3 rfl rfl | exact St.ldA hs 3 rfl rfl rfl | exact St.ld1 hs 4 rfl rfl | exact St.ldA hs 4 rfl rfl rfl | exact St.ld1 hs 5 rfl rfl | exact St.ldA hs 5 rfl rfl rfl | exact St.ld1 hs 6 rfl rfl | exact St.ldA hs 6 rfl rfl rfl) (by first | exact .inl rfl | exact .inr (fun h => h)) ?_
          refine EW.move rfl rfl rfl rfl rfl rfl ?_
          refine EW.indexAddr rfl rfl rfl rfl rfl rfl rfl (by omega) (by omega) ?_
          refine EW.loadP rfl rfl rfl rfl rfl rfl (by first | assumption | (apply LDP.drew; assumption) | exact St.ld1 hs 0 rfl rfl | exact St.ldA hs 0 rfl rfl rfl | exact St.ld1 hs 1 rfl rfl | exact St.ldA hs 1 rfl rfl rfl | exact St.ld1 hs 2 rfl rfl | exact St.ldA hs 2 rfl rfl rfl | exact St.ld1 hs 3 rfl rfl | exact St.ldA hs 3 rfl rfl rfl | exact St.ld1 hs 4 rfl rfl | exact St.ldA hs 4 rfl rfl rfl | exact St.ld1 hs 5 rfl rfl | exact St.ldA hs 5 rfl rfl rfl | exact St.ld1 hs 6 rfl rfl | exact St.ldA hs 6 rfl rfl rfl) (by first | exact .inl rfl | exact .inr (fun h => h)) ?_
          refine EW.lit1 elL (_) hs rfl rfl rfl rfl rfl rfl rfl ?_
          clear hs; intro b131 w hs
          refine EW.callT1 (RReach_spec _ b2 AN cN AE cE g _ 1 [x] (RGA.of hs 7 8 9 rfl rfl rfl) hg1 (SlA.lit hs 0 rfl) (by simp)) rfl rfl rfl rfl rfl Tryz.func23 bd23 nm23 rfl ?_
          intro v132 w hk132 hp132
          obtain ⟨ys, hfr, hys1, hys2⟩ := hp132
          replace hs := hs.fresh hk132 hfr
          obtain ⟨A132, c132, rfl, _⟩ := own_sl (hs.res 0 rfl)
          replace hs : St w0 noS w (own elL (.slice A132 ys.length c132) ys :: own elL (.slice A122 ((xss.take i).flatten ++ pi.take k ++ [x]).length c122) ((xss.take i).flatten ++ pi.take k ++ [x]) :: own elP (.slice (some ao) qs.length c27) (qs.map (·.1)) :: rows elL qs :: (pgR b mb ps ++ rgR b2 (.slice AN g.N.length cN) (.slice AE g.E.length cE) g)) := hs.pick [0, 2, 3, 4, 5, 6, 7, 8, 9, 10] (by decide)
          have hysm : ∀ a, a ∈ ys ↔ Rc g.E x a := fun a => by rw [hys2, rch_one hxN]
          have hysl : ys.length ≤ 120 := by
            have h1 : ys.Nodup := hys1.imp fun {a b} h e => by rw [e, lt_irrefl] at h; cases h
            refine Nat.le_trans (nodup_sub_len ys g.N h1 fun a ha => ?_) hnl
            have h2 := (hysm a).1 ha
            unfold Rc at h2
            cases h2 with
            | base z hz => subst hz; exact hxN
            | step z u _ he => exact (hok.wf _ he).2
          refine EW.assign rfl rfl rfl rfl rfl rfl ?_
          refine EW.done ?_
          refine NW.seq ?_
          refine KW.seq ?_
          refine CW.region (S := noS) [(0, .q)] rfl ?_
          refine EW.assign rfl rfl rfl rfl rfl rfl ?_
          refine EW.done ?_
          refine NW.seq ?_
          refine KW.block ?_
          refine KW.loop (ι := Nat) (fun j => qs.length - j) (fun j => [(3, .pointer (some ⟨b, 0, none⟩)), (4, .pointer (some ⟨b2, 0, none⟩)), (5, .slice (some ao) qs.length c27), (7, .slice A122 ((xss.take i).flatten ++ pi.take k ++ [x]).length c122), (8, .int .i64 (i : Int)), (9, .int .i64 (k : Int)), (10, .slice A132 ys.length c132), (11, .int .i64 (j : Int))]) (fun j w => j ≤ qs.length ∧ St w0 noS w (own elL (.slice A132 ys.length c132) ys :: own elL (.slice A122 ((xss.take i).flatten ++ pi.take k ++ [x]).length c122) ((xss.take i).flatten ++ pi.take k ++ [x]) :: own elP (.slice (some ao) qs.length c27) (qs.map (·.1)) :: rows elL qs :: (pgR b mb ps ++ rgR b2 (.slice AN g.N.length cN) (.slice AE g.E.length cE) g))) 0 (by repeat (first | exact trivial | (refine ⟨by first | rfl | (congr 2; omega) | (simp; done) | (congr 1; simp; done), ?_⟩))) ?_ ?_
          · exact ⟨Nat.zero_le _, hs⟩
          clear hs
          rintro j w ⟨hj, hs⟩
          refine KW.seq ?_
          refine KW.seq ?_
          refine CW.region (S := noS) [(0, .q), (1, .q), (2, .q), (3, .q)] rfl ?_
          refine EW.move rfl rfl rfl rfl rfl rfl ?_
          refine EW.move rfl rfl rfl rfl rfl rfl ?_
          refine EW.len rfl rfl rfl rfl rfl rfl ?_
          refine EW.bin rfl rfl rfl rfl rfl rfl rfl BV.lss ?_
          refine EW.done ?_
          refine NW.seq ?_
          by_cases hjn : j < qs.length
          · refine CW.cond_t rfl (by simpa using hjn) ?_
            obtain ⟨⟨⟨Aj, nj, cj⟩, pj⟩, hqj⟩ : ∃ p, qs[j]? = some p := ⟨_, List.getElem?_eq_getElem hjn⟩
            obtain ⟨hsj, hnj, _⟩ := hs.rowSl 3 rfl hqj
            dsimp only at hsj hnj
            subst hnj
            have hxj := hxq _ _ _ hqj
            have hjm : pj ∈ xss := List.mem_of_getElem? hxj
            have hpjl := hpl pj hjm
            have hjne : 0 < pj.length := List.length_pos_iff.2 (hip.ne pj hjm)
            obtain ⟨aj, rfl, _, _⟩ := hsj.at_ hjne
            obtain ⟨y, hy0⟩ : ∃ y, pj[0]? = some y := ⟨_, List.getElem?_eq_getElem hjne⟩
            have hym : y ∈ pj := List.mem_of_getElem? hy0
            have hyN := hnm pj hjm y hym
            have hra := RowsA.of hs 2 3 rfl rfl
            have gi := hra.hd hqi
            have gj := hra.hd hqj
            have gx := hra.el hqi hxk
            have gy : LDP Tryz.prog w 44 (aj.add ((0 : Int).toNat * 2)) (encL y) := hra.el (k := 0) hqj hy0
            refine KW.skip ?_
            refine NW.seq ?_
            refine KW.seq ?_
            refine KW.block ?_
            refine KW.seq ?_
            refine CW.region (S := noS) [(0, .q), (1, .q), (2, .q), (3, .q), (4, .q), (5, .q), (6, .q), (7, .l), (8, .q)] rfl ?_
            refine EW.move rfl rfl rfl rfl rfl rfl ?_
            refine EW.move rfl rfl rfl rfl rfl rfl ?_
            refine EW.move rfl rfl rfl rfl rfl rfl ?_
            refine EW.indexAddr rfl rfl rfl rfl rfl rfl rfl (by omega) (by omega) ?_
            refine EW.loadP rfl rfl rfl rfl rfl rfl (by first | assumption | (apply LDP.drew; assumption) | exact St.ld1 hs 0 rfl rfl | exact St.ldA hs 0 rfl rfl rfl | exact St.ld1 hs 1 rfl rfl | exact St.ldA hs 1 rfl rfl rfl | exact St.ld1 hs 2 rfl rfl | exact St.ldA hs 2 rfl rfl rfl | exact St.ld1 hs 3 rfl rfl | exact St.ldA hs 3 rfl rfl rfl | exact St.ld1 hs 4 rfl rfl | exact St.ldA hs 4 rfl rfl rfl | exact St.ld1 hs 5 rfl rfl | exact St.ldA hs 5 rfl rfl rfl | exact St.ld1 hs 6 rfl rfl | exact St.ldA hs 6 rfl rfl rfl) (by first | exact .inl rfl | exact .inr (fun h => h)) ?_
            refine EW.indexAddr rfl rfl rfl rfl rfl rfl rfl (by omega) (by omega) ?_
            refine EW.loadP rfl rfl rfl rfl rfl rfl (by first | assumption | (apply LDP.drew; assumption) | exact St.ld1 hs 0 rfl rfl | exact St.ldA hs 0 rfl rfl rfl | exact St.ld1 hs 1 rfl rfl | exact St.ldA hs 1 rfl rfl rfl | exact St.ld1 hs 2 rfl rfl | exact St.ldA hs 2 rfl rfl rfl | exact St.ld1 hs 3 rfl rfl | exact St.ldA hs 3 rfl rfl rfl | exact St.ld1 hs 4 rfl rfl | exact St.ldA hs 4 rfl rfl rfl | exact St.ld1 hs 5 rfl rfl | exact St.ldA hs 5 rfl rfl rfl | exact St.ld1 hs 6 rfl rfl | exact St.ldA hs 6 rfl rfl rfl) (by first | exact .inl rfl | exact .inr (fun h => h)) ?_
            refine EW.callT1 (In_spec _ _ _ _ _ (hs.sl 0 rfl) (by omega)) rfl rfl rfl rfl rfl Tryz.func22 bd22 nm22 rfl ?_
            intro v146 w hk146 hp146
            subst hp146
            replace hs := hs.stay hk146
            have hra := RowsA.of hs 2 3 rfl rfl
            have gi := hra.hd hqi
            have gj := hra.hd hqj
            have gx := hra.el hqi hxk
            have gy : LDP _ w 44 (aj.add ((0 : Int).toNat * 2)) (encL y) := hra.el (k := 0) hqj hy0
            refine EW.assign rfl rfl rfl rfl rfl rfl ?_
            refine EW.done ?_
            refine NW.seq ?_
            refine KW.seq ?_
            refine CW.regionD (noS) [(0, .q), (1, .q), (2, .q), (3, .q), (4, .q), (5, .q), (6, .q), (7, .q), (8, .q), (9, .q), (10, .q), (11, .q), (12, .q), (13, .q), (14, .q), (15, .q), (16, .q), (17, .q), (18, .q), (19, .q), (20, .q), (21, .q), (24, .q), (25, .q), (26, .q), (27, .q), (28, .q), (29, .q), (30, .q), (22, .l), (23, .l), (31, .l), (32, .q), (33, .q)] mixed (by kernel_rfl) ?_
            replace hs := hs.drew
            refine EW.move rfl rfl rfl rfl rfl rfl ?_
            refine EW.move rfl rfl rfl rfl rfl rfl ?_
            refine EW.bin rfl rfl rfl rfl rfl rfl rfl BV.eqi ?_
            refine EW.move rfl rfl rfl rfl rfl rfl ?_
            have gi := gi.drew
            have gj := gj.drew
            have gx := gx.drew
            have gy := gy.drew
            refine EW.caseB (fun hji => ?_) (fun hji => ?_)
            · skip
              have hji2 : ((j : Nat) : Int) = ((i : Nat) : Int) := of_decide_eq_true hji
              have hji' : j = i := by omega
              subst hji'
              have hpe : pj = pi := by rw [hxi] at hxj; injection hxj with h; exact h.symm
              subst hpe
              have hin2 : y ∈ ys := (hysm y).2 ((hip.cls pj hjm x hxm y).1 hym).1
              rw [decide_eq_true hin2]
              refine EW.move rfl rfl rfl rfl rfl rfl ?_
              refine EW.not rfl rfl rfl rfl rfl rfl ?_
              refine EW.pick rfl rfl rfl rfl rfl rfl rfl ?_
              refine EW.move rfl rfl rfl rfl rfl rfl ?_
              refine EW.move rfl rfl rfl rfl rfl rfl ?_
              refine EW.move rfl rfl rfl rfl rfl rfl ?_
              refine EW.bin rfl rfl rfl rfl rfl rfl rfl BV.nei ?_
              rw [show decide (((j : Nat) : Int) ≠ ((j : Nat) : Int)) = false from decide_eq_false (by omega)]
              refine EW.move rfl rfl rfl rfl rfl rfl ?_
              refine EW.off rfl rfl rfl rfl ?_
              refine EW.pick rfl rfl rfl rfl rfl rfl rfl ?_
              refine EW.move rfl rfl rfl rfl rfl rfl ?_
              refine EW.off rfl rfl rfl rfl ?_
              refine EW.off rfl rfl rfl rfl ?_
              refine EW.off rfl rfl rfl rfl ?_
              refine EW.off rfl rfl rfl rfl ?_
              refine EW.off rfl rfl rfl rfl ?_
              refine EW.off rfl rfl rfl rfl ?_
              refine EW.off rfl rfl rfl rfl ?_
              refine EW.off rfl rfl rfl rfl ?_
              refine EW.off rfl rfl rfl rfl ?_
              refine EW.off rfl rfl rfl rfl ?_
              refine EW.off rfl rfl rfl rfl ?_
              refine EW.off rfl rfl rfl rfl ?_
              refine EW.off rfl rfl rfl rfl ?_
              refine EW.off rfl rfl rfl rfl ?_
              refine EW.off rfl rfl rfl rfl ?_
              refine EW.off rfl rfl rfl rfl ?_
              refine EW.off rfl rfl rfl rfl ?_
              refine EW.pick rfl rfl rfl rfl rfl rfl rfl ?_
              refine EW.pick rfl rfl rfl rfl rfl rfl rfl ?_
              refine EW.done ?_
              refine NW.seq ?_
              refine CW.cond_f rfl (rfl) ?_
              refine KW.skip ?_
              refine NW.blk ?_
              refine NW.seq ?_
              refine CW.region (S := noS) [(0, .q), (1, .q), (2, .q)] rfl ?_
              refine EW.move rfl rfl rfl rfl rfl rfl ?_
              refine EW.bin rfl rfl rfl rfl rfl rfl rfl (BV.add (wrap_i64 (by omega) (by omega))) ?_
              refine EW.assign rfl rfl rfl rfl rfl rfl ?_
              refine EW.done ?_
              refine NW.again (j + 1) (by first | assumption | (dsimp only; omega) | omega | (simp; omega)) (by repeat (first | exact trivial | (refine ⟨by first | rfl | (congr 2; omega) | (simp; done) | (congr 1; simp; done), ?_⟩))) ?_
              try dsimp only
              exact ⟨hjn, hs⟩
            · skip
              have hji2 : ¬ ((j : Nat) : Int) = ((i : Nat) : Int) := of_decide_eq_false hji
              have hji' : j ≠ i := by omega
              refine EW.off rfl rfl rfl rfl ?_
              refine EW.off rfl rfl rfl rfl ?_
              refine EW.pick rfl rfl rfl rfl rfl rfl rfl ?_
              refine EW.move rfl rfl rfl rfl rfl rfl ?_
              refine EW.move rfl rfl rfl rfl rfl rfl ?_
              refine EW.move rfl rfl rfl rfl rfl rfl ?_
              refine EW.bin rfl rfl rfl rfl rfl rfl rfl BV.nei ?_
              rw [show decide (((j : Nat) : Int) ≠ ((i : Nat) : Int)) = true from decide_eq_true (by omega)]
              refine EW.move rfl rfl rfl rfl rfl rfl ?_
              refine EW.move rfl rfl rfl rfl rfl rfl ?_
              refine EW.pick rfl rfl rfl rfl rfl rfl rfl ?_
              refine EW.move rfl rfl rfl rfl rfl rfl ?_
              refine EW.caseB (fun hth => ?_) (fun hth => ?_)
              · skip
                have hth' : Rc g.E x y := (hysm y).1 (by simpa using hth)
                refine EW.move rfl rfl rfl rfl rfl rfl ?_
                refine EW.move rfl rfl rfl rfl rfl rfl ?_
                refine EW.move rfl rfl rfl rfl rfl rfl ?_
                refine EW.indexAddr rfl rfl rfl rfl rfl rfl rfl (by omega) (by omega) ?_
                refine EW.loadP rfl rfl rfl rfl rfl rfl (by first | assumption | (apply LDP.drew; assumption) | exact St.ld1 hs 0 rfl rfl | exact St.ldA hs 0 rfl rfl rfl | exact St.ld1 hs 1 rfl rfl | exact St.ldA hs 1 rfl rfl rfl | exact St.ld1 hs 2 rfl rfl | exact St.ldA hs 2 rfl rfl rfl | exact St.ld1 hs 3 rfl rfl | exact St.ldA hs 3 rfl rfl rfl | exact St.ld1 hs 4 rfl rfl | exact St.ldA hs 4 rfl rfl rfl | exact St.ld1 hs 5 rfl rfl | exact St.ldA hs 5 rfl rfl rfl | exact St.ld1 hs 6 rfl rfl | exact St.ldA hs 6 rfl rfl rfl) (by first | exact .inl rfl | exact .inr (fun h => h)) ?_
                refine EW.indexAddr rfl rfl rfl rfl rfl rfl rfl (by omega) (by omega) ?_
                refine EW.loadP rfl rfl rfl rfl rfl rfl (by first | assumption | (apply LDP.drew; assumption) | exact St.ld1 hs 0 rfl rfl | exact St.ldA hs 0 rfl rfl rfl | exact St.ld1 hs 1 rfl rfl | exact St.ldA hs 1 rfl rfl rfl | exact St.ld1 hs 2 rfl rfl | exact St.ldA hs 2 rfl rfl rfl | exact St.ld1 hs 3 rfl rfl | exact St.ldA hs 3 rfl rfl rfl | exact St.ld1 hs 4 rfl rfl | exact St.ldA hs 4 rfl rfl rfl | exact St.ld1 hs 5 rfl rfl | exact St.ldA hs 5 rfl rfl rfl | exact St.ld1 hs 6 rfl rfl | exact St.ldA hs 6 rfl rfl rfl) (by first | exact .inl rfl | exact .inr (fun h => h)) ?_
                refine EW.move rfl rfl rfl rfl rfl rfl ?_
                refine EW.move rfl rfl rfl rfl rfl rfl ?_
                refine EW.indexAddr rfl rfl rfl rfl rfl rfl rfl (by omega) (by omega) ?_
                refine EW.loadP rfl rfl rfl rfl rfl rfl (by first | assumption | (apply LDP.drew; assumption) | exact St.ld1 hs 0 rfl rfl | exact St.ldA hs 0 rfl rfl rfl | exact St.ld1 hs 1 rfl rfl | exact St.ldA hs 1 rfl rfl rfl | exact St.ld1 hs 2 rfl rfl | exact St.ldA hs 2 rfl rfl rfl | exact St.ld1 hs 3 rfl rfl | exact St.ldA hs 3 rfl rfl rfl | exact St.ld1 hs 4 rfl rfl | exact St.ldA hs 4 rfl rfl rfl | exact St.ld1 hs 5 rfl rfl | exact St.ldA hs 5 rfl rfl rfl | exact St.ld1 hs 6 rfl rfl | exact St.ldA hs 6 rfl rfl rfl) (by first | exact .inl rfl | exact .inr (fun h => h)) ?_
                refine EW.move rfl rfl rfl rfl rfl rfl ?_
                refine EW.indexAddr rfl rfl rfl rfl rfl rfl rfl (by omega) (by omega) ?_
                refine EW.loadP rfl rfl rfl rfl rfl rfl (by first | assumption | (apply LDP.drew; assumption) | exact St.ld1 hs 0 rfl rfl | exact St.ldA hs 0 rfl rfl rfl | exact St.ld1 hs 1 rfl rfl | exact St.ldA hs 1 rfl rfl rfl | exact St.ld1 hs 2 rfl rfl | exact St.ldA hs 2 rfl rfl rfl | exact St.ld1 hs 3 rfl rfl | exact St.ldA hs 3 rfl rfl rfl | exact St.ld1 hs 4 rfl rfl | exact St.ldA hs 4 rfl rfl rfl | exact St.ld1 hs 5 rfl rfl | exact St.ldA hs 5 rfl rfl rfl | exact St.ld1 hs 6 rfl rfl | exact St.ldA hs 6 rfl rfl rfl) (by first | exact .inl rfl | exact .inr (fun h => h)) ?_
                refine EW.lit1 elL (_) hs rfl rfl rfl rfl rfl rfl rfl ?_
                clear hs; intro b169 w hs
                refine EW.callT1 (RReach_spec _ b2 AN cN AE cE g _ 1 [y] (RGA.of hs 8 9 10 rfl rfl rfl) hg1 (SlA.lit hs 0 rfl) (by simp)) rfl rfl rfl rfl rfl Tryz.func23 bd23 nm23 rfl ?_
                intro v170 w hk170 hp170
                obtain ⟨zs, hfr2, hzs1, hzs2⟩ := hp170
                replace hs := hs.fresh hk170 hfr2
                obtain ⟨A170, c170, rfl, _⟩ := own_sl (hs.res 0 rfl)
                have hzm : ∀ a, a ∈ zs ↔ Rc g.E y a := fun a => by rw [hzs2, rch_one hyN]
                have hzl : zs.length ≤ 120 := by
                  have h1 : zs.Nodup := hzs1.imp fun {a b} h e => by rw [e, lt_irrefl] at h; cases h
                  refine Nat.le_trans (nodup_sub_len zs g.N h1 fun a ha => ?_) hnl
                  have h2 := (hzm a).1 ha
                  unfold Rc at h2
                  cases h2 with
                  | base z hz => subst hz; exact hyN
                  | step z u _ he => exact (hok.wf _ he).2
                have hnot : x ∉ zs := fun h => by
                  have h2 := (hzm x).1 h
                  have h3 : x ∈ pj := (hip.cls pj hjm y hym x).2 ⟨h2, hth'⟩
                  exact hji' (hfit.dis j i pj pi hxj hxi x h3 hxm)
                refine EW.callT1 (In_spec _ _ _ _ _ (hs.sl 0 rfl) (by omega)) rfl rfl rfl rfl rfl Tryz.func22 bd22 nm22 rfl ?_
                intro v178 w hk178 hp178
                subst hp178
                replace hs := hs.stay hk178
                rw [decide_eq_false hnot]
                refine EW.pick rfl rfl rfl rfl rfl rfl rfl ?_
                refine EW.pick rfl rfl rfl rfl rfl rfl rfl ?_
                refine EW.done ?_
                refine NW.seq ?_
                refine CW.cond_f rfl (rfl) ?_
                refine KW.skip ?_
                refine NW.blk ?_
                refine NW.seq ?_
                refine CW.region (S := noS) [(0, .q), (1, .q), (2, .q)] rfl ?_
                refine EW.move rfl rfl rfl rfl rfl rfl ?_
                refine EW.bin rfl rfl rfl rfl rfl rfl rfl (BV.add (wrap_i64 (by omega) (by omega))) ?_
                refine EW.assign rfl rfl rfl rfl rfl rfl ?_
                refine EW.done ?_
                refine NW.again (j + 1) (by first | assumption | (dsimp only; omega) | omega | (simp; omega)) (by repeat (first | exact trivial | (refine ⟨by first | rfl | (congr 2; omega) | (simp; done) | (congr 1; simp; done), ?_⟩))) ?_
                try dsimp only
                exact ⟨hjn, hs.pick [2, 3, 4, 5, 6, 7, 8, 9, 10, 11] (by decide)⟩
              · skip
                refine EW.off rfl rfl rfl rfl ?_
                refine EW.off rfl rfl rfl rfl ?_
                refine EW.off rfl rfl rfl rfl ?_
                refine EW.off rfl rfl rfl rfl ?_
                refine EW.off rfl rfl rfl rfl ?_
                refine EW.off rfl rfl rfl rfl ?_
                refine EW.off rfl rfl rfl rfl ?_
                refine EW.off rfl rfl rfl rfl ?_
                refine EW.off rfl rfl rfl rfl ?_
                refine EW.off rfl rfl rfl rfl ?_
                refine EW.off rfl rfl rfl rfl ?_
                refine EW.off rfl rfl rfl rfl ?_
                refine EW.off rfl rfl rfl rfl ?_
                refine EW.off rfl rfl rfl rfl ?_
                refine EW.off rfl rfl rfl rfl ?_
                refine EW.off rfl rfl rfl rfl ?_
                refine EW.off rfl rfl rfl rfl ?_
                refine EW.pick rfl rfl rfl rfl rfl rfl rfl ?_
                refine EW.pick rfl rfl rfl rfl rfl rfl rfl ?_
                refine EW.done ?_
                refine NW.seq ?_
                refine CW.cond_f rfl (rfl) ?_
                refine KW.skip ?_
                refine NW.blk ?_
                refine NW.seq ?_
                refine CW.region (S := noS) [(0, .q), (1, .q), (2, .q)] rfl ?_
                refine EW.move rfl rfl rfl rfl rfl rfl ?_
                refine EW.bin rfl rfl rfl rfl rfl rfl rfl (BV.add (wrap_i64 (by omega) (by omega))) ?_
                refine EW.assign rfl rfl rfl rfl rfl rfl ?_
                refine EW.done ?_
                refine NW.again (j + 1) (by first | assumption | (dsimp only; omega) | omega | (simp; omega)) (by repeat (first | exact trivial | (refine ⟨by first | rfl | (congr 2; omega) | (simp; done) | (congr 1; simp; done), ?_⟩))) ?_
                try dsimp only
                exact ⟨hjn, hs⟩
          · refine CW.cond_f rfl (by simpa using hjn) ?_
            refine KW.exit ?_
            refine XW.seq ?_
            refine XW.inv ?_
            refine XW.blk ?_
            refine NW.blk ?_
            refine NW.seq ?_
            refine CW.region (S := noS) [(0, .q), (1, .q), (2, .q)] rfl ?_
            refine EW.move rfl rfl rfl rfl rfl rfl ?_
            refine EW.bin rfl rfl rfl rfl rfl rfl rfl (BV.add (wrap_i64 (by omega) (by omega))) ?_
            refine EW.assign rfl rfl rfl rfl rfl rfl ?_
            refine EW.done ?_
            refine NW.again ((k + 1, .slice A122 ((xss.take i).flatten ++ pi.take k ++ [x]).length c122)) (by first | assumption | (dsimp only; omega) | omega | (simp; omega)) (by repeat (first | exact trivial | (refine ⟨by first | rfl | (congr 2; omega) | (simp; done) | (congr 1; simp; done), ?_⟩))) ?_
            try dsimp only
            refine ⟨hkn, ?_⟩
            have e : (xss.take i).flatten ++ pi.take (k + 1) = (xss.take i).flatten ++ pi.take k ++ [x] := by
              rw [List.take_add_one, hxk, List.append_assoc]; rfl
            rw [e]
            exact hs.tail
      · refine CW.cond_f rfl (by simpa using hkn) ?_
        have hke : k = pi.length := by omega
        subst hke
        rw [List.take_length, ← flat_next hxi] at hs
        refine KW.exit ?_
        refine XW.seq ?_
        refine XW.inv ?_
        refine XW.blk ?_
        refine NW.blk ?_
        refine NW.seq ?_
        refine CW.region (S := noS) [(0, .q), (1, .q), (2, .q)] rfl ?_
        refine EW.move rfl rfl rfl rfl rfl rfl ?_
        refine EW.bin rfl rfl rfl rfl rfl rfl rfl (BV.add (wrap_i64 (by omega) (by omega))) ?_
        refine EW.assign rfl rfl rfl rfl rfl rfl ?_
        refine EW.done ?_
        refine NW.again ((i + 1, v7)) (by first | assumption | (dsimp only; omega) | omega | (simp; omega)) (by repeat (first | exact trivial | (refine ⟨by first | rfl | (congr 2; omega) | (simp; done) | (congr 1; simp; done), ?_⟩))) ?_
        try dsimp only
        exact ⟨hin, hs⟩
  · refine CW.cond_f rfl (by simpa using hin) ?_
    have hie : i = qs.length := by omega
    subst hie
    rw [hqn0, List.take_length] at hs
    obtain ⟨A7, c7, rfl, _⟩ := own_sl (hs.res 0 rfl)
    have hne : (!((firstC g.E xss).2 == (orderL g.E (risingL g.N)).2)) = true := by
      rw [order_first hip hok.wf]
      cases (orderL g.E (risingL g.N)).2 <;> rfl
    refine KW.exit ?_
    refine XW.seq ?_
    refine XW.inv ?_
    refine XW.blk ?_
    refine NW.seq ?_
    refine KW.seq ?_
    refine CW.region (S := noS) [(0, .q), (1, .l), (2, .q), (3, .q), (4, .q), (5, .q), (6, .q)] rfl ?_
    refine EW.move rfl rfl rfl rfl rfl rfl ?_
    refine EW.callT1 (First_spec _ b mb ps g (PGA.of hs 3 4 5 rfl rfl rfl) hps hok hbig (by omega) hgs.nm (hgl.stay hs.keep)) rfl rfl rfl rfl rfl Tryz.func9 bd9 nm9 rfl ?_
    intro v183 w hk183 hp183
    obtain ⟨xss4, hip4, ⟨A183, n183, c183⟩, rfl, hst⟩ := hp183
    rw [parts_unique hip4 hip] at hst ⊢
    replace hs := hs.plus hst
    clear hst
    simp only [svV, List.cons_append, List.nil_append] at hs ⊢
    obtain rfl := (own_slA (hs.res 0 rfl)).2.1
    refine EW.move rfl rfl rfl rfl rfl rfl ?_
    refine EW.extract rfl rfl rfl rfl rfl rfl rfl ?_
    refine EW.extract rfl rfl rfl rfl rfl rfl rfl ?_
    refine EW.assign rfl rfl rfl rfl rfl rfl ?_
    refine EW.assign rfl rfl rfl rfl rfl rfl ?_
    refine EW.done ?_
    refine NW.seq ?_
    refine KW.seq ?_
    refine CW.region (S := noS) [(0, .q), (1, .l), (2, .q), (3, .q), (4, .q), (5, .q), (6, .q)] rfl ?_
    refine EW.move rfl rfl rfl rfl rfl rfl ?_
    refine EW.callT1 (Order_spec _ b2 AN cN AE cE g (RGA.of hs 7 8 9 rfl rfl rfl) hg1) rfl rfl rfl rfl rfl Tryz.func24 bd24 nm24 rfl ?_
    intro v188 w hk188 hp188
    obtain ⟨⟨A188, n188, c188⟩, rfl, hst⟩ := hp188
    replace hs := hs.plus hst
    clear hst
    simp only [svV, List.cons_append, List.nil_append] at hs ⊢
    refine EW.move rfl rfl rfl rfl rfl rfl ?_
    refine EW.extract rfl rfl rfl rfl rfl rfl rfl ?_
    refine EW.extract rfl rfl rfl rfl rfl rfl rfl ?_
    refine EW.assign rfl rfl rfl rfl rfl rfl ?_
    refine EW.assign rfl rfl rfl rfl rfl rfl ?_
    refine EW.done ?_
    refine NW.seq ?_
    refine KW.seq ?_
    refine CW.region (S := noS) [(0, .q), (1, .q), (2, .q), (3, .q), (4, .q), (5, .q), (6, .q), (7, .q), (8, .q), (9, .q), (10, .q), (11, .q), (12, .q), (13, .q), (14, .q), (15, .q), (16, .q), (17, .q), (18, .q), (19, .q), (20, .q), (21, .q)] rfl ?_
    refine EW.move rfl rfl rfl rfl rfl rfl ?_
    refine EW.move rfl rfl rfl rfl rfl rfl ?_
    refine EW.bin rfl rfl rfl rfl rfl rfl rfl BV.neb ?_
    rw [hne]
    refine EW.move rfl rfl rfl rfl rfl rfl ?_
    refine EW.move rfl rfl rfl rfl rfl rfl ?_
    refine EW.len rfl rfl rfl rfl rfl rfl ?_
    refine EW.move rfl rfl rfl rfl rfl rfl ?_
    refine EW.nilCheck rfl rfl rfl rfl rfl rfl ?_
    first | refine EW.fieldAddr rfl rfl rfl rfl rfl rfl ?_ | refine EW.fieldAddrA rfl rfl rfl rfl rfl rfl ?_
    refine EW.loadP rfl rfl rfl rfl rfl rfl (hs.ld1 8 rfl rfl) (.inl rfl) ?_
    refine EW.len rfl rfl rfl rfl rfl rfl ?_
    refine EW.bin rfl rfl rfl rfl rfl rfl rfl BV.eqi ?_
    rw [show decide (((xss.flatten.length : Nat) : Int) = ((g.N.length : Nat) : Int)) = true from decide_eq_true (by omega)]
    refine EW.pick rfl rfl rfl rfl rfl rfl rfl ?_
    refine EW.move rfl rfl rfl rfl rfl rfl ?_
    refine EW.move rfl rfl rfl rfl rfl rfl ?_
    refine EW.move rfl rfl rfl rfl rfl rfl ?_
    refine EW.caseB (fun hfi => ?_) (fun hfi => ?_)
    · skip
      refine EW.off rfl rfl rfl rfl ?_
      refine EW.off rfl rfl rfl rfl ?_
      refine EW.off rfl rfl rfl rfl ?_
      refine EW.pick rfl rfl rfl rfl rfl rfl rfl ?_
      refine EW.pick rfl rfl rfl rfl rfl rfl rfl ?_
      refine EW.assign rfl rfl rfl rfl rfl rfl ?_
      refine EW.done ?_
      refine NW.seq ?_
      refine KW.ret1 rfl rfl ?_
      refine ⟨_, rfl, hs.keep, ?_⟩
      rfl
    · skip
      have hf0 : (firstC g.E xss).1.length = 0 := by
        have hfi' : (firstC g.E xss).2 = false := hfi
        unfold firstC at hfi' ⊢
        split
        · rename_i hh; rw [hh] at hfi'; cases hfi'
        · rfl
      refine EW.move rfl rfl rfl rfl rfl rfl ?_
      refine EW.len rfl rfl rfl rfl rfl rfl ?_
      refine EW.bin rfl rfl rfl rfl rfl rfl rfl BV.eqi ?_
      rw [show decide ((((firstC g.E xss).1.length : Nat) : Int) = 0) = true from decide_eq_true (by omega)]
      refine EW.pick rfl rfl rfl rfl rfl rfl rfl ?_
      refine EW.pick rfl rfl rfl rfl rfl rfl rfl ?_
      refine EW.assign rfl rfl rfl rfl rfl rfl ?_
      refine EW.done ?_
      refine NW.seq ?_
      refine KW.ret1 rfl rfl ?_
      refine ⟨_, rfl, hs.keep, ?_⟩
      rfl
end Go.Cw.Tryz
