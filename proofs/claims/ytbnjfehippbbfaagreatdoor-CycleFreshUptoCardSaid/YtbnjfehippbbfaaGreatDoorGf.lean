/- Proved here, as a part of the claim: how the code of the program walks (CwAH, CwAI, CwAJ, CwAK). -/
import Derived.Test.YtbnjfehippbbfaaGreatDoorGe
import Derived.Test.YtbnjfehippbbfaaGreatDoorGb
import Derived.Shelf.SlSortCmp.Whole1
import Derived.Shelf.SlSortCmp.NoneTotal
set_option linter.unusedVariables false
set_option linter.unusedSimpArgs false
namespace Go.Cw.Tryz
open Go.Proofs Go.Cw Go.Shelf
attribute [local irreducible] Go.Addr.add
theorem setM_pl (l : List Lab) (hn : l.Nodup) (k : Nat) (hk : k < l.length) : setM (kvPl (l.take k)) l[k] (.int .i64 (k : Int)) = kvPl (l.take (k + 1)) := by
  have gen : ∀ (kv : List (Lab × Value)) (a : Lab) (v : Value), a ∉ kv.map (·.1) → setM kv a v = kv ++ [(a, v)] := by
    intro kv a v
    induction kv with
    | nil => intro _; rfl
    | cons p r ih =>
      intro h
      simp only [List.map_cons, List.mem_cons, not_or] at h
      rw [setM, if_neg h.1, ih h.2]; rfl
  have hkeys : (kvPl (l.take k)).map (·.1) = l.take k := by
    simp [kvPl, List.map_map, Function.comp_def]
  rw [gen _ _ _ (by
    rw [hkeys]
    intro h
    obtain ⟨j, hj⟩ := List.mem_iff_getElem?.1 h
    rw [List.getElem?_take] at hj
    split at hj
    · rename_i hjk
      have := (List.getElem?_inj hk hn (i := k) (j := j)).1 (by rw [hj]; simp)
      omega
    · cases hj)]
  have et : l.take (k + 1) = l.take k ++ [l[k]] := by rw [List.take_add_one, List.getElem?_eq_getElem hk]; rfl
  rw [et]
  unfold kvPl
  rw [List.zipIdx_append, List.map_append]
  congr 1
  simp [Nat.min_eq_left (Nat.le_of_lt hk)]
/-- The places of labels. -/
def plOf (nodes : List Lab) (l : List Lab) : List Int := l.map fun a => ((nodes.idxOf a : Nat) : Int)
/-- What 'begun' answers. -/
def BegunPost (w0 : World) (nodes : List Lab) (E : List Edg) (r : Value) (w' : World) : Prop :=
  ∃ (b : Nat) (v : WV) (An : Option Addr) (cn : Nat) (Av : Option Addr) (cv : Nat) (outs : List (SV × List Int)), r = .pointer (some ⟨b, 0, none⟩) ∧ v.vN = .slice An nodes.length cn ∧ v.vO = .slice Av outs.length cv ∧
    outs.map (·.2) = nodes.map (fun a => plOf nodes (risingL (outOf E a))) ∧ St w0 noS w' (wkR b v ⟨List.replicate nodes.length 0, List.replicate nodes.length 0, [], List.replicate nodes.length 0, 0, []⟩ ++ [rows elI outs, own elO v.vO (outs.map (·.1)), own elL v.vN nodes])
theorem begun_spec (w0 : World) (b mb : Nat) (ps : List PE) (g : RG) (hg : PGA w0 b mb ps) (hp : IsPG ps g) (hok : g.Ok) (hbig : g.Big 100000) (hnl : g.N.length ≤ 100000) (hsm : ∀ a ∈ g.N, Cw.Sm a) (hgl : GL w0) :
    T1 Tryz.prog 29 [.pointer (some ⟨b, 0, none⟩)] w0 (BegunPost w0 (risingL g.N) g.E) := by
  refine KW.enterT1 (n := 88) Tryz.func29 rfl rfl rfl ?_
  have hs := St.init w0 noS
  refine KW.seq ?_
  refine CW.region (S := noS) [(0, .q)] rfl ?_
  refine EW.assign rfl rfl rfl rfl rfl rfl ?_
  refine EW.done ?_
  refine NW.seq ?_
  refine KW.seq ?_
  refine CW.region (S := noS) [(0, .q), (1, .l), (2, .q), (3, .l), (4, .q)] rfl ?_
  refine EW.move rfl rfl rfl rfl rfl rfl ?_
  refine EW.callT1 (Nodes_spec _ b mb ps g (hg.stay hs.keep) hp hok hnl hsm (hgl.stay hs.keep)) rfl rfl rfl rfl rfl Tryz.func14 bd14 nm14 rfl ?_
  intro v14 w hk14 hp14
  replace hs := hs.fresh hk14 hp14
  obtain ⟨A14, c14, rfl, _⟩ := own_sl (hs.res 0 rfl)
  refine EW.build (α := Unit) (pv := [(0, .slice A14 (risingL g.N).length c14)]) rfl rfl rfl rfl rfl rfl rfl (build62 _ _ _) ?_
  refine EW.box hs rfl rfl rfl rfl rfl rfl ?_
  clear hs; intro b16 w hs
  refine EW.assign rfl rfl rfl rfl rfl rfl ?_
  refine EW.done ?_
  refine NW.seq ?_
  refine KW.seq ?_
  refine CW.region (S := noS) [(0, .l), (1, .q)] rfl ?_
  refine EW.makeMap KL hs rfl rfl rfl rfl rfl ?_
  clear hs; intro b17 w hs
  refine EW.assign rfl rfl rfl rfl rfl rfl ?_
  refine EW.done ?_
  refine NW.seq ?_
  refine KW.seq ?_
  refine KW.seq ?_
  refine CW.region (S := noS) [(0, .q), (1, .q), (2, .q), (3, .q), (4, .q), (5, .q)] rfl ?_
  refine EW.move rfl rfl rfl rfl rfl rfl ?_
  refine EW.nilCheck rfl rfl rfl rfl rfl rfl ?_
  first | refine EW.fieldAddr rfl rfl rfl rfl rfl rfl ?_ | refine EW.fieldAddrA rfl rfl rfl rfl rfl rfl ?_
  refine EW.loadP rfl rfl rfl rfl rfl rfl (by first | assumption | (apply LDP.drew; assumption) | exact St.ld1 hs 0 rfl rfl | exact St.ldA hs 0 rfl rfl rfl | exact St.ld1 hs 1 rfl rfl | exact St.ldA hs 1 rfl rfl rfl | exact St.ld1 hs 2 rfl rfl | exact St.ldA hs 2 rfl rfl rfl | exact St.ld1 hs 3 rfl rfl | exact St.ldA hs 3 rfl rfl rfl | exact St.ld1 hs 4 rfl rfl | exact St.ldA hs 4 rfl rfl rfl | exact St.ld1 hs 5 rfl rfl | exact St.ldA hs 5 rfl rfl rfl | exact St.ld1 hs 6 rfl rfl | exact St.ldA hs 6 rfl rfl rfl) (by first | exact .inl rfl | exact .inr (fun h => h)) ?_
  refine EW.len rfl rfl rfl rfl rfl rfl ?_
  refine EW.move rfl rfl rfl rfl rfl rfl ?_
  refine EW.done ?_
  refine NW.seq ?_
  refine KW.block ?_
  obtain ⟨nodes, hnodes⟩ : ∃ nodes, nodes = risingL g.N := ⟨_, rfl⟩
  rw [← hnodes] at hs ⊢
  have hnm : ∀ a, a ∈ nodes ↔ a ∈ g.N := fun a => by rw [hnodes]; exact (rising_spec _).2 a
  have hnn : nodes.Nodup := by rw [hnodes]; exact (rising_spec g.N).1.imp fun {a b} h e => by rw [e, lt_irrefl] at h; cases h
  have hnlen : nodes.length ≤ 100000 := by rw [hnodes]; exact Nat.le_trans (length_risingL _) hnl
  refine KW.loop (ι := Nat) (fun k => nodes.length - k) (fun k => [(0, .pointer (some ⟨b, 0, none⟩)), (3, .pointer (some ⟨b16, 0, none⟩)), (4, .map (some b17)), (21, .slice A14 nodes.length c14), (22, .int .i64 (nodes.length : Int)), (23, .int .i64 (k : Int))]) (fun k w => k ≤ nodes.length ∧ St w0 noS w [mapR KL b17 (kvPl (nodes.take k)), pt b16 (.cells #[.slice A14 nodes.length c14, .slice none 0 0, .slice none 0 0, .slice none 0 0, .slice none 0 0, .slice none 0 0, .int .i64 0, .slice none 0 0] 62), own elL (.slice A14 nodes.length c14) nodes]) 0 (by repeat (first | exact trivial | (refine ⟨by first | rfl | (congr 2; omega) | (simp; done) | (congr 1; simp; done), ?_⟩))) ?_ ?_
  · exact ⟨Nat.zero_le _, hs⟩
  clear hs
  rintro k w ⟨hk, hs⟩
  refine KW.seq ?_
  refine CW.region (S := noS) [(0, .q)] rfl ?_
  refine EW.bin rfl rfl rfl rfl rfl rfl rfl BV.lss ?_
  refine EW.done ?_
  refine NW.seq ?_
  refine KW.seq ?_
  by_cases hlt : k < nodes.length
  · refine CW.cond_t rfl (by simpa using hlt) ?_
    obtain ⟨ad, rfl, _, hld⟩ := (hs.sl 2 rfl).at_ hlt
    have g1 : LDP Tryz.prog w 44 (ad.add ((k : Int).toNat * 2)) (encL nodes[k]) := hld k nodes[k] (by simp)
    refine KW.skip ?_
    refine NW.seq ?_
    refine KW.seq ?_
    refine KW.block ?_
    refine KW.seq ?_
    refine CW.region (S := noS) [(0, .q), (1, .q), (2, .q), (3, .l), (4, .q), (5, .l)] rfl ?_
    refine EW.move rfl rfl rfl rfl rfl rfl ?_
    refine EW.indexAddr rfl rfl rfl rfl rfl rfl rfl (by omega) (by omega) ?_
    refine EW.loadP rfl rfl rfl rfl rfl rfl (by first | assumption | (apply LDP.drew; assumption) | exact St.ld1 hs 0 rfl rfl | exact St.ldA hs 0 rfl rfl rfl | exact St.ld1 hs 1 rfl rfl | exact St.ldA hs 1 rfl rfl rfl | exact St.ld1 hs 2 rfl rfl | exact St.ldA hs 2 rfl rfl rfl | exact St.ld1 hs 3 rfl rfl | exact St.ldA hs 3 rfl rfl rfl | exact St.ld1 hs 4 rfl rfl | exact St.ldA hs 4 rfl rfl rfl | exact St.ld1 hs 5 rfl rfl | exact St.ldA hs 5 rfl rfl rfl | exact St.ld1 hs 6 rfl rfl | exact St.ldA hs 6 rfl rfl rfl) (by first | exact .inl rfl | exact .inr (fun h => h)) ?_
    refine EW.alloc (z := .agg #[.string ByteArray.empty, .string ByteArray.empty]) hs rfl rfl rfl rfl rfl (by kernel_rfl) ?_
    clear hs; intro b6 w hs; dsimp only [Value.cells] at hs
    refine EW.assign rfl rfl rfl rfl rfl rfl ?_
    first | refine EW.store hs 0 rfl rfl rfl rfl rfl rfl rfl rfl rfl (by simp [encL, Value.oneCell', Value.cells]) rfl (.inl rfl) ?_ | refine EW.store hs 1 rfl rfl rfl rfl rfl rfl rfl rfl rfl (by simp [encL, Value.oneCell', Value.cells]) rfl (.inl rfl) ?_ | refine EW.store hs 2 rfl rfl rfl rfl rfl rfl rfl rfl rfl (by simp [encL, Value.oneCell', Value.cells]) rfl (.inl rfl) ?_ | refine EW.store hs 3 rfl rfl rfl rfl rfl rfl rfl rfl rfl (by simp [encL, Value.oneCell', Value.cells]) rfl (.inl rfl) ?_ | refine EW.store hs 4 rfl rfl rfl rfl rfl rfl rfl rfl rfl (by simp [encL, Value.oneCell', Value.cells]) rfl (.inl rfl) ?_ | refine EW.store hs 5 rfl rfl rfl rfl rfl rfl rfl rfl rfl (by simp [encL, Value.oneCell', Value.cells]) rfl (.inl rfl) ?_ | refine EW.store hs 6 rfl rfl rfl rfl rfl rfl rfl rfl rfl (by simp [encL, Value.oneCell', Value.cells]) rfl (.inl rfl) ?_
    clear hs; intro w hs; dsimp only [List.set, setAt] at hs
    refine EW.done ?_
    refine NW.seq ?_
    refine CW.region (S := noS) [(0, .q), (1, .q), (2, .q), (3, .l)] rfl ?_
    refine EW.move rfl rfl rfl rfl rfl rfl ?_
    refine EW.loadP rfl rfl rfl rfl rfl rfl (by first | assumption | (apply LDP.drew; assumption) | exact St.ld1 hs 0 rfl rfl | exact St.ldA hs 0 rfl rfl rfl | exact St.ld1 hs 1 rfl rfl | exact St.ldA hs 1 rfl rfl rfl | exact St.ld1 hs 2 rfl rfl | exact St.ldA hs 2 rfl rfl rfl | exact St.ld1 hs 3 rfl rfl | exact St.ldA hs 3 rfl rfl rfl | exact St.ld1 hs 4 rfl rfl | exact St.ldA hs 4 rfl rfl rfl | exact St.ld1 hs 5 rfl rfl | exact St.ldA hs 5 rfl rfl rfl | exact St.ld1 hs 6 rfl rfl | exact St.ldA hs 6 rfl rfl rfl) (by first | exact .inl rfl | exact .inr (fun h => h)) ?_
    refine EW.move rfl rfl rfl rfl rfl rfl ?_
    refine EW.mapUpdate hs 1 (K := KL) (a := nodes[k]) ht64 rfl rfl rfl rfl rfl rfl rfl rfl (.inl rfl) ?_
    clear hs; intro w hs; dsimp only [List.set] at hs
    rw [setM_pl nodes hnn k hlt] at hs
    refine EW.done ?_
    refine NW.blk ?_
    refine NW.seq ?_
    refine CW.region (S := noS) [(0, .q), (1, .q)] rfl ?_
    refine EW.bin rfl rfl rfl rfl rfl rfl rfl (BV.add (wrap_i64 (by omega) (by omega))) ?_
    refine EW.move rfl rfl rfl rfl rfl rfl ?_
    refine EW.done ?_
    refine NW.again (k + 1) (by first | assumption | (dsimp only; omega) | omega | (simp; omega)) (by repeat (first | exact trivial | (refine ⟨by first | rfl | (congr 2; omega) | (simp; done) | (congr 1; simp; done), ?_⟩))) ?_
    try dsimp only
    exact ⟨hlt, hs.tail⟩
  · refine CW.cond_f rfl (by simpa using hlt) ?_
    have hke : k = nodes.length := by omega
    subst hke
    rw [List.take_length] at hs
    refine KW.exit ?_
    refine XW.seq ?_
    refine XW.inv ?_
    refine XW.blk ?_
    refine NW.seq ?_
    refine KW.seq ?_
    refine KW.seq ?_
    refine CW.region (S := noS) [(0, .q), (1, .q), (2, .q), (3, .q), (4, .q), (5, .q)] rfl ?_
    refine EW.move rfl rfl rfl rfl rfl rfl ?_
    refine EW.nilCheck rfl rfl rfl rfl rfl rfl ?_
    first | refine EW.fieldAddr rfl rfl rfl rfl rfl rfl ?_ | refine EW.fieldAddrA rfl rfl rfl rfl rfl rfl ?_
    refine EW.loadP rfl rfl rfl rfl rfl rfl (by first | assumption | (apply LDP.drew; assumption) | exact St.ld1 hs 0 rfl rfl | exact St.ldA hs 0 rfl rfl rfl | exact St.ld1 hs 1 rfl rfl | exact St.ldA hs 1 rfl rfl rfl | exact St.ld1 hs 2 rfl rfl | exact St.ldA hs 2 rfl rfl rfl | exact St.ld1 hs 3 rfl rfl | exact St.ldA hs 3 rfl rfl rfl | exact St.ld1 hs 4 rfl rfl | exact St.ldA hs 4 rfl rfl rfl | exact St.ld1 hs 5 rfl rfl | exact St.ldA hs 5 rfl rfl rfl | exact St.ld1 hs 6 rfl rfl | exact St.ldA hs 6 rfl rfl rfl) (by first | exact .inl rfl | exact .inr (fun h => h)) ?_
    refine EW.len rfl rfl rfl rfl rfl rfl ?_
    refine EW.move rfl rfl rfl rfl rfl rfl ?_
    refine EW.done ?_
    refine NW.seq ?_
    refine KW.block ?_
    replace hs := (hs.nil elO).rowsNil elI
    refine KW.loop (ι := Nat × Value × List (SV × List Int)) (fun i => nodes.length - i.1) (fun i => [(0, .pointer (some ⟨b, 0, none⟩)), (3, .pointer (some ⟨b16, 0, none⟩)), (4, .map (some b17)), (35, .slice A14 nodes.length c14), (36, .int .i64 (nodes.length : Int)), (37, .int .i64 (i.1 : Int))]) (fun i w => i.1 ≤ nodes.length ∧ i.2.2.map (·.2) = (nodes.take i.1).map (fun a => plOf nodes (risingL (outOf g.E a))) ∧ St w0 noS w [rows elI i.2.2, own elO i.2.1 (i.2.2.map (·.1)), mapR KL b17 (kvPl nodes), pt b16 (.cells #[.slice A14 nodes.length c14, i.2.1, .slice none 0 0, .slice none 0 0, .slice none 0 0, .slice none 0 0, .int .i64 0, .slice none 0 0] 62), own elL (.slice A14 nodes.length c14) nodes]) (0, .slice none 0 0, []) (by repeat (first | exact trivial | (refine ⟨by first | rfl | (congr 2; omega) | (simp; done) | (congr 1; simp; done), ?_⟩))) ?_ ?_
    · exact ⟨Nat.zero_le _, rfl, hs⟩
    clear hs
    rintro ⟨k, vo, outs⟩ w ⟨hk, houts, hs⟩
    dsimp only at hk houts hs
    obtain ⟨Av, cv, rfl, _⟩ := own_sl (hs.res 1 rfl)
    have hol : outs.length = k := by have := congrArg List.length houts; simpa [Nat.min_eq_left hk] using this
    refine KW.seq ?_
    refine CW.region (S := noS) [(0, .q)] rfl ?_
    refine EW.bin rfl rfl rfl rfl rfl rfl rfl BV.lss ?_
    refine EW.done ?_
    refine NW.seq ?_
    refine KW.seq ?_
    by_cases hlt : k < nodes.length
    · refine CW.cond_t rfl (by simpa using hlt) ?_
      obtain ⟨ad, rfl, _, hld⟩ := (hs.sl 4 rfl).at_ hlt
      have g1 : LDP Tryz.prog w 44 (ad.add ((k : Int).toNat * 2)) (encL nodes[k]) := hld k nodes[k] (by simp)
      refine KW.skip ?_
      refine NW.seq ?_
      refine KW.seq ?_
      refine KW.block ?_
      refine KW.seq ?_
      refine CW.region (S := noS) [(0, .q), (1, .q), (2, .l), (3, .l)] rfl ?_
      refine EW.indexAddr rfl rfl rfl rfl rfl rfl rfl (by omega) (by omega) ?_
      refine EW.loadP rfl rfl rfl rfl rfl rfl (by first | assumption | (apply LDP.drew; assumption) | exact St.ld1 hs 0 rfl rfl | exact St.ldA hs 0 rfl rfl rfl | exact St.ld1 hs 1 rfl rfl | exact St.ldA hs 1 rfl rfl rfl | exact St.ld1 hs 2 rfl rfl | exact St.ldA hs 2 rfl rfl rfl | exact St.ld1 hs 3 rfl rfl | exact St.ldA hs 3 rfl rfl rfl | exact St.ld1 hs 4 rfl rfl | exact St.ldA hs 4 rfl rfl rfl | exact St.ld1 hs 5 rfl rfl | exact St.ldA hs 5 rfl rfl rfl | exact St.ld1 hs 6 rfl rfl | exact St.ldA hs 6 rfl rfl rfl) (by first | exact .inl rfl | exact .inr (fun h => h)) ?_
      refine EW.alloc (z := .agg #[.string ByteArray.empty, .string ByteArray.empty]) hs rfl rfl rfl rfl rfl (by kernel_rfl) ?_
      clear hs; intro b8 w hs; dsimp only [Value.cells] at hs
      first | refine EW.store hs 0 rfl rfl rfl rfl rfl rfl rfl rfl rfl (by simp [encL, Value.oneCell', Value.cells]) rfl (.inl rfl) ?_ | refine EW.store hs 1 rfl rfl rfl rfl rfl rfl rfl rfl rfl (by simp [encL, Value.oneCell', Value.cells]) rfl (.inl rfl) ?_ | refine EW.store hs 2 rfl rfl rfl rfl rfl rfl rfl rfl rfl (by simp [encL, Value.oneCell', Value.cells]) rfl (.inl rfl) ?_ | refine EW.store hs 3 rfl rfl rfl rfl rfl rfl rfl rfl rfl (by simp [encL, Value.oneCell', Value.cells]) rfl (.inl rfl) ?_ | refine EW.store hs 4 rfl rfl rfl rfl rfl rfl rfl rfl rfl (by simp [encL, Value.oneCell', Value.cells]) rfl (.inl rfl) ?_ | refine EW.store hs 5 rfl rfl rfl rfl rfl rfl rfl rfl rfl (by simp [encL, Value.oneCell', Value.cells]) rfl (.inl rfl) ?_ | refine EW.store hs 6 rfl rfl rfl rfl rfl rfl rfl rfl rfl (by simp [encL, Value.oneCell', Value.cells]) rfl (.inl rfl) ?_
      clear hs; intro w hs; dsimp only [List.set, setAt] at hs
      refine EW.done ?_
      refine NW.seq ?_
      refine KW.seq ?_
      refine CW.region (S := noS) [(0, .q)] rfl ?_
      refine EW.assign rfl rfl rfl rfl rfl rfl ?_
      refine EW.done ?_
      refine NW.seq ?_
      refine KW.seq ?_
      refine KW.seq ?_
      refine CW.region (S := noS) [(0, .q), (1, .q), (2, .l), (3, .q), (4, .q)] rfl ?_
      refine EW.move rfl rfl rfl rfl rfl rfl ?_
      refine EW.loadP rfl rfl rfl rfl rfl rfl (by first | assumption | (apply LDP.drew; assumption) | exact St.ld1 hs 0 rfl rfl | exact St.ldA hs 0 rfl rfl rfl | exact St.ld1 hs 1 rfl rfl | exact St.ldA hs 1 rfl rfl rfl | exact St.ld1 hs 2 rfl rfl | exact St.ldA hs 2 rfl rfl rfl | exact St.ld1 hs 3 rfl rfl | exact St.ldA hs 3 rfl rfl rfl | exact St.ld1 hs 4 rfl rfl | exact St.ldA hs 4 rfl rfl rfl | exact St.ld1 hs 5 rfl rfl | exact St.ldA hs 5 rfl rfl rfl | exact St.ld1 hs 6 rfl rfl | exact St.ldA hs 6 rfl rfl rfl) (by first | exact .inl rfl | exact .inr (fun h => h)) ?_
      refine EW.callT1 (Out_spec _ b mb ps g nodes[k] (hg.stay hs.keep) hp hok hbig.e) rfl rfl rfl rfl rfl Tryz.func16 bd16 nm16 rfl ?_
      intro v43 w hk43 hp43
      replace hs := hs.fresh hk43 hp43
      obtain ⟨A43, c43, rfl, _⟩ := own_sl (hs.res 0 rfl)
      refine EW.len rfl rfl rfl rfl rfl rfl ?_
      refine EW.move rfl rfl rfl rfl rfl rfl ?_
      refine EW.done ?_
      refine NW.seq ?_
      refine KW.block ?_
      obtain ⟨ys, hys⟩ : ∃ ys, ys = risingL (outOf g.E nodes[k]) := ⟨_, rfl⟩
      rw [← hys] at hs ⊢
      have hyl : ys.length ≤ 100000 := by rw [hys]; exact Nat.le_trans (length_risingL _) (Nat.le_trans (outOf_len _ _) hbig.e)
      have hyn : ∀ y ∈ ys, y ∈ nodes := fun y hy => (hnm y).2 (hok.wf _ ((outOf_mem _ _ _).1 ((rising_spec _).2 y |>.1 (hys ▸ hy)))).2
      replace hs := hs.nil elI
      refine KW.loop (ι := Nat × Value) (fun i => ys.length - i.1) (fun i => [(0, .pointer (some ⟨b, 0, none⟩)), (3, .pointer (some ⟨b16, 0, none⟩)), (4, .map (some b17)), (9, i.2), (35, .slice (some ad) nodes.length c14), (36, .int .i64 (nodes.length : Int)), (37, .int .i64 (k : Int)), (43, .slice A43 ys.length c43), (44, .int .i64 (ys.length : Int)), (45, .int .i64 (i.1 : Int))]) (fun i w => i.1 ≤ ys.length ∧ St w0 noS w [own elI i.2 (plOf nodes (ys.take i.1)), own elL (.slice A43 ys.length c43) ys, rows elI outs, own elO (.slice Av (outs.map (·.1)).length cv) (outs.map (·.1)), mapR KL b17 (kvPl nodes), pt b16 (.cells #[.slice (some ad) nodes.length c14, .slice Av (outs.map (·.1)).length cv, .slice none 0 0, .slice none 0 0, .slice none 0 0, .slice none 0 0, .int .i64 0, .slice none 0 0] 62), own elL (.slice (some ad) nodes.length c14) nodes]) (0, .slice none 0 0) (by repeat (first | exact trivial | (refine ⟨by first | rfl | (congr 2; omega) | (simp; done) | (congr 1; simp; done), ?_⟩))) ?_ ?_
      · exact ⟨Nat.zero_le _, hs.pick [0, 1, 3, 4, 5, 6, 7] (by decide)⟩
      clear hs
      rintro ⟨j, v9⟩ w ⟨hj, hs⟩
      dsimp only at hj hs
      refine KW.seq ?_
      refine CW.region (S := noS) [(0, .q)] rfl ?_
      refine EW.bin rfl rfl rfl rfl rfl rfl rfl BV.lss ?_
      refine EW.done ?_
      refine NW.seq ?_
      refine KW.seq ?_
      by_cases hjl : j < ys.length
      · refine CW.cond_t rfl (by simpa using hjl) ?_
        obtain ⟨ay, rfl, _, hly⟩ := (hs.sl 1 rfl).at_ hjl
        have g2 : LDP Tryz.prog w 44 (ay.add ((j : Int).toNat * 2)) (encL ys[j]) := hly j ys[j] (by simp)
        have hym : ys[j] ∈ nodes := hyn _ (List.getElem_mem hjl)
        have hget : getM (kvPl nodes) ys[j] = some (.int .i64 ((nodes.idxOf ys[j] : Nat) : Int)) := by
          have := getM_pl nodes ys[j] (.int .i64 0) 0
          rw [if_pos hym, Nat.zero_add] at this
          exact this
        have hpl : (plOf nodes (ys.take j)).length ≤ 100000 := by rw [plOf, List.length_map, List.length_take]; omega
        refine KW.skip ?_
        refine NW.seq ?_
        refine KW.seq ?_
        refine KW.block ?_
        refine KW.seq ?_
        refine CW.region (S := noS) [(0, .q), (1, .q), (2, .l), (3, .l)] rfl ?_
        refine EW.indexAddr rfl rfl rfl rfl rfl rfl rfl (by omega) (by omega) ?_
        refine EW.loadP rfl rfl rfl rfl rfl rfl (by first | assumption | (apply LDP.drew; assumption) | exact St.ld1 hs 0 rfl rfl | exact St.ldA hs 0 rfl rfl rfl | exact St.ld1 hs 1 rfl rfl | exact St.ldA hs 1 rfl rfl rfl | exact St.ld1 hs 2 rfl rfl | exact St.ldA hs 2 rfl rfl rfl | exact St.ld1 hs 3 rfl rfl | exact St.ldA hs 3 rfl rfl rfl | exact St.ld1 hs 4 rfl rfl | exact St.ldA hs 4 rfl rfl rfl | exact St.ld1 hs 5 rfl rfl | exact St.ldA hs 5 rfl rfl rfl | exact St.ld1 hs 6 rfl rfl | exact St.ldA hs 6 rfl rfl rfl) (by first | exact .inl rfl | exact .inr (fun h => h)) ?_
        refine EW.alloc (z := .agg #[.string ByteArray.empty, .string ByteArray.empty]) hs rfl rfl rfl rfl rfl (by kernel_rfl) ?_
        clear hs; intro b11 w hs; dsimp only [Value.cells] at hs
        first | refine EW.store hs 0 rfl rfl rfl rfl rfl rfl rfl rfl rfl (by simp [encL, Value.oneCell', Value.cells]) rfl (.inl rfl) ?_ | refine EW.store hs 1 rfl rfl rfl rfl rfl rfl rfl rfl rfl (by simp [encL, Value.oneCell', Value.cells]) rfl (.inl rfl) ?_ | refine EW.store hs 2 rfl rfl rfl rfl rfl rfl rfl rfl rfl (by simp [encL, Value.oneCell', Value.cells]) rfl (.inl rfl) ?_ | refine EW.store hs 3 rfl rfl rfl rfl rfl rfl rfl rfl rfl (by simp [encL, Value.oneCell', Value.cells]) rfl (.inl rfl) ?_ | refine EW.store hs 4 rfl rfl rfl rfl rfl rfl rfl rfl rfl (by simp [encL, Value.oneCell', Value.cells]) rfl (.inl rfl) ?_ | refine EW.store hs 5 rfl rfl rfl rfl rfl rfl rfl rfl rfl (by simp [encL, Value.oneCell', Value.cells]) rfl (.inl rfl) ?_ | refine EW.store hs 6 rfl rfl rfl rfl rfl rfl rfl rfl rfl (by simp [encL, Value.oneCell', Value.cells]) rfl (.inl rfl) ?_
        clear hs; intro w hs; dsimp only [List.set, setAt] at hs
        refine EW.done ?_
        refine NW.seq ?_
        refine CW.region (S := noS) [(0, .q), (1, .q), (2, .q), (3, .q), (4, .l), (5, .l), (6, .q)] rfl ?_
        refine EW.move rfl rfl rfl rfl rfl rfl ?_
        refine EW.move rfl rfl rfl rfl rfl rfl ?_
        refine EW.loadP rfl rfl rfl rfl rfl rfl (by first | assumption | (apply LDP.drew; assumption) | exact St.ld1 hs 0 rfl rfl | exact St.ldA hs 0 rfl rfl rfl | exact St.ld1 hs 1 rfl rfl | exact St.ldA hs 1 rfl rfl rfl | exact St.ld1 hs 2 rfl rfl | exact St.ldA hs 2 rfl rfl rfl | exact St.ld1 hs 3 rfl rfl | exact St.ldA hs 3 rfl rfl rfl | exact St.ld1 hs 4 rfl rfl | exact St.ldA hs 4 rfl rfl rfl | exact St.ld1 hs 5 rfl rfl | exact St.ldA hs 5 rfl rfl rfl | exact St.ld1 hs 6 rfl rfl | exact St.ldA hs 6 rfl rfl rfl) (by first | exact .inl rfl | exact .inr (fun h => h)) ?_
        refine EW.lookup1 (K := KL) (a := ys[j]) (hs.res 5 rfl) hz3 ht64 (by rw [hget]) rfl rfl rfl rfl rfl rfl rfl (.inl rfl) ?_
        refine EW.lit1 elI (_) hs rfl rfl rfl rfl rfl rfl rfl ?_
        clear hs; intro b53 w hs
        refine EW.append1 elI 2 0 hs rfl rfl (by show ((plOf nodes (ys.take j)).length + 1) * 8 ≤ 140737488355328; omega) (.inl rfl) rfl rfl rfl rfl rfl rfl rfl ?_
        clear hs; intro v54 w hs; dsimp only [List.set] at hs; replace hs := hs.tail
        refine EW.assign rfl rfl rfl rfl rfl rfl ?_
        refine EW.done ?_
        refine NW.blk ?_
        refine NW.seq ?_
        refine CW.region (S := noS) [(0, .q), (1, .q)] rfl ?_
        refine EW.bin rfl rfl rfl rfl rfl rfl rfl (BV.add (wrap_i64 (by omega) (by omega))) ?_
        refine EW.move rfl rfl rfl rfl rfl rfl ?_
        refine EW.done ?_
        refine NW.again ((j + 1, v54)) (by first | assumption | (dsimp only; omega) | omega | (simp; omega)) (by repeat (first | exact trivial | (refine ⟨by first | rfl | (congr 2; omega) | (simp; done) | (congr 1; simp; done), ?_⟩))) ?_
        try dsimp only
        refine ⟨hjl, ?_⟩
        have e1 : plOf nodes (ys.take (j + 1)) = plOf nodes (ys.take j) ++ [((nodes.idxOf ys[j] : Nat) : Int)] := by
          have et : ys.take (j + 1) = ys.take j ++ [ys[j]] := by rw [List.take_add_one, List.getElem?_eq_getElem hjl]; rfl
          rw [et, plOf, List.map_append]; rfl
        rw [e1]
        exact hs.tail
      · refine CW.cond_f rfl (by simpa using hjl) ?_
        have hje : j = ys.length := by omega
        subst hje
        rw [List.take_length] at hs
        obtain ⟨A9, c9, rfl, _⟩ := own_sl (hs.res 0 rfl)
        have hpyl : (plOf nodes ys).length ≤ 100000 := by rw [plOf, List.length_map]; exact hyl
        refine KW.exit ?_
        refine XW.seq ?_
        refine XW.inv ?_
        refine XW.blk ?_
        refine NW.seq ?_
        refine CW.region (S := noS) [(0, .q), (1, .q), (2, .q), (3, .q), (4, .q), (5, .q), (6, .l), (7, .l), (8, .q), (9, .q), (10, .l)] rfl ?_
        refine EW.move rfl rfl rfl rfl rfl rfl ?_
        refine EW.move rfl rfl rfl rfl rfl rfl ?_
        refine EW.nilCheck rfl rfl rfl rfl rfl rfl ?_
        first | refine EW.fieldAddr rfl rfl rfl rfl rfl rfl ?_ | refine EW.fieldAddrA rfl rfl rfl rfl rfl rfl ?_
        refine EW.loadP rfl rfl rfl rfl rfl rfl (by first | assumption | (apply LDP.drew; assumption) | exact St.ld1 hs 0 rfl rfl | exact St.ldA hs 0 rfl rfl rfl | exact St.ld1 hs 1 rfl rfl | exact St.ldA hs 1 rfl rfl rfl | exact St.ld1 hs 2 rfl rfl | exact St.ldA hs 2 rfl rfl rfl | exact St.ld1 hs 3 rfl rfl | exact St.ldA hs 3 rfl rfl rfl | exact St.ld1 hs 4 rfl rfl | exact St.ldA hs 4 rfl rfl rfl | exact St.ld1 hs 5 rfl rfl | exact St.ldA hs 5 rfl rfl rfl | exact St.ld1 hs 6 rfl rfl | exact St.ldA hs 6 rfl rfl rfl) (by first | exact .inl rfl | exact .inr (fun h => h)) ?_
        refine EW.move rfl rfl rfl rfl rfl rfl ?_
        refine EW.lit1 elO ((A9, (plOf nodes ys).length, c9)) hs rfl rfl rfl rfl rfl rfl rfl ?_
        clear hs; intro b62 w hs
        refine EW.append1 elO 4 0 hs rfl rfl (by show ((outs.map (·.1)).length + 1) * 24 ≤ 140737488355328; rw [List.length_map]; omega) (.inl rfl) rfl rfl rfl rfl rfl rfl rfl ?_
        clear hs; intro v63 w hs; dsimp only [List.set] at hs; replace hs := hs.tail
        obtain ⟨A63, c63, rfl, _⟩ := own_sl (hs.res 3 rfl)
        refine EW.nilCheck rfl rfl rfl rfl rfl rfl ?_
        first | refine EW.fieldAddr rfl rfl rfl rfl rfl rfl ?_ | refine EW.fieldAddrA rfl rfl rfl rfl rfl rfl ?_
        first | refine EW.store hs 0 rfl rfl rfl rfl rfl rfl rfl rfl rfl (by simp [Value.oneCell', Value.cells]) rfl (.inl rfl) ?_ | refine EW.store hs 1 rfl rfl rfl rfl rfl rfl rfl rfl rfl (by simp [Value.oneCell', Value.cells]) rfl (.inl rfl) ?_ | refine EW.store hs 2 rfl rfl rfl rfl rfl rfl rfl rfl rfl (by simp [Value.oneCell', Value.cells]) rfl (.inl rfl) ?_ | refine EW.store hs 3 rfl rfl rfl rfl rfl rfl rfl rfl rfl (by simp [Value.oneCell', Value.cells]) rfl (.inl rfl) ?_ | refine EW.store hs 4 rfl rfl rfl rfl rfl rfl rfl rfl rfl (by simp [Value.oneCell', Value.cells]) rfl (.inl rfl) ?_ | refine EW.store hs 5 rfl rfl rfl rfl rfl rfl rfl rfl rfl (by simp [Value.oneCell', Value.cells]) rfl (.inl rfl) ?_ | refine EW.store hs 6 rfl rfl rfl rfl rfl rfl rfl rfl rfl (by simp [Value.oneCell', Value.cells]) rfl (.inl rfl) ?_
        clear hs; intro w hs; dsimp only [List.set, setAt] at hs
        refine EW.done ?_
        refine NW.blk ?_
        refine NW.seq ?_
        refine CW.region (S := noS) [(0, .q), (1, .q)] rfl ?_
        refine EW.bin rfl rfl rfl rfl rfl rfl rfl (BV.add (wrap_i64 (by omega) (by omega))) ?_
        refine EW.move rfl rfl rfl rfl rfl rfl ?_
        refine EW.done ?_
        replace hs := hs.pick [2, 0, 3, 4, 5, 6] (by decide)
        simp only [List.filterMap_cons, List.filterMap_nil, List.getElem?_cons_succ, List.getElem?_cons_zero] at hs
        replace hs := St.rowAdd (s := (A9, (plOf nodes ys).length, c9)) hs
        refine NW.again ((k + 1, .slice A63 (outs.map (·.1) ++ [(A9, (plOf nodes ys).length, c9)]).length c63, outs ++ [((A9, (plOf nodes ys).length, c9), plOf nodes ys)])) (by first | assumption | (dsimp only; omega) | omega | (simp; omega)) (by repeat (first | exact trivial | (refine ⟨by first | rfl | (congr 2; omega) | (simp; done) | (congr 1; simp; done), ?_⟩))) ?_
        try dsimp only
        refine ⟨hlt, ?_, ?_⟩
        · have et : nodes.take (k + 1) = nodes.take k ++ [nodes[k]] := by rw [List.take_add_one, List.getElem?_eq_getElem hlt]; rfl
          rw [et, List.map_append, List.map_append, houts, hys]; rfl
        · rw [List.map_append]
          exact hs
    · refine CW.cond_f rfl (by simpa using hlt) ?_
      have hke : k = nodes.length := by omega
      subst hke
      rw [List.take_length] at houts
      refine KW.exit ?_
      refine XW.seq ?_
      refine XW.inv ?_
      refine XW.blk ?_
      refine NW.seq ?_
      refine KW.seq ?_
      refine CW.region (S := noS) [(0, .q), (1, .q), (2, .q), (3, .q), (4, .q), (5, .q)] rfl ?_
      refine EW.move rfl rfl rfl rfl rfl rfl ?_
      refine EW.nilCheck rfl rfl rfl rfl rfl rfl ?_
      first | refine EW.fieldAddr rfl rfl rfl rfl rfl rfl ?_ | refine EW.fieldAddrA rfl rfl rfl rfl rfl rfl ?_
      refine EW.loadP rfl rfl rfl rfl rfl rfl (by first | assumption | (apply LDP.drew; assumption) | exact St.ld1 hs 0 rfl rfl | exact St.ldA hs 0 rfl rfl rfl | exact St.ld1 hs 1 rfl rfl | exact St.ldA hs 1 rfl rfl rfl | exact St.ld1 hs 2 rfl rfl | exact St.ldA hs 2 rfl rfl rfl | exact St.ld1 hs 3 rfl rfl | exact St.ldA hs 3 rfl rfl rfl | exact St.ld1 hs 4 rfl rfl | exact St.ldA hs 4 rfl rfl rfl | exact St.ld1 hs 5 rfl rfl | exact St.ldA hs 5 rfl rfl rfl | exact St.ld1 hs 6 rfl rfl | exact St.ldA hs 6 rfl rfl rfl) (by first | exact .inl rfl | exact .inr (fun h => h)) ?_
      refine EW.len rfl rfl rfl rfl rfl rfl ?_
      refine EW.assign rfl rfl rfl rfl rfl rfl ?_
      refine EW.done ?_
      refine NW.seq ?_
      refine KW.cut (ι := Nat × Nat × Nat) (fun _ => [(3, .pointer (some ⟨b16, 0, none⟩))]) (fun i w => St w0 noS w [pt b16 (.cells #[.slice A14 nodes.length c14, .slice Av (outs.map (·.1)).length cv, .slice (some ⟨i.1, 0, none⟩) nodes.length nodes.length, .slice (some ⟨i.2.1, 0, none⟩) nodes.length nodes.length, .slice none 0 0, .slice (some ⟨i.2.2, 0, none⟩) nodes.length nodes.length, .int .i64 0, .slice none 0 0] 62), own elI (.slice (some ⟨i.1, 0, none⟩) nodes.length nodes.length) (List.replicate nodes.length 0), own elI (.slice (some ⟨i.2.1, 0, none⟩) nodes.length nodes.length) (List.replicate nodes.length 0), own elI (.slice (some ⟨i.2.2, 0, none⟩) nodes.length nodes.length) (List.replicate nodes.length 0), rows elI outs, own elO (.slice Av (outs.map (·.1)).length cv) (outs.map (·.1)), own elL (.slice A14 nodes.length c14) nodes]) ?_ ?_
      · skip
        refine CW.regionT (fun k => k = b16) (.fork [(0, .q), (1, .q), (2, .q), (3, .q), (5, .q), (7, .q)] (.fork [(4, .l), (9, .q), (10, .q)] (.fork [(6, .l)] (.leaf [(8, .l), (11, .l), (12, .q), (13, .q), (14, .l), (15, .q), (16, .q), (17, .l)]) (.fork [(11, .l), (12, .q), (13, .q)] (.leaf [(8, .l), (14, .l), (15, .q), (16, .q), (17, .l)]) (.leaf [(14, .l), (8, .l), (15, .q), (16, .q), (17, .l)]))) (.fork [] (.fork [(8, .l)] (.leaf [(6, .l), (11, .l), (12, .q), (13, .q), (14, .l), (15, .q), (16, .q), (17, .l)]) (.leaf [(11, .l), (6, .l), (12, .q), (13, .q), (14, .l), (15, .q), (16, .q), (17, .l)])) (.fork [(11, .l)] (.fork [(6, .l), (12, .q), (13, .q)] (.leaf [(8, .l), (14, .l), (15, .q), (16, .q), (17, .l)]) (.leaf [(14, .l), (8, .l), (15, .q), (16, .q), (17, .l)])) (.leaf [(8, .l), (6, .l), (12, .q), (13, .q), (14, .l), (15, .q), (16, .q), (17, .l)])))) (.fork [] (.fork [(6, .l)] (.fork [(4, .l), (9, .q), (10, .q)] (.leaf [(8, .l), (11, .l), (12, .q), (13, .q), (14, .l), (15, .q), (16, .q), (17, .l)]) (.fork [(11, .l), (12, .q), (13, .q)] (.leaf [(8, .l), (14, .l), (15, .q), (16, .q), (17, .l)]) (.leaf [(14, .l), (8, .l), (15, .q), (16, .q), (17, .l)]))) (.leaf [(8, .l), (4, .l), (9, .q), (10, .q), (11, .l), (12, .q), (13, .q), (14, .l), (15, .q), (16, .q), (17, .l)])) (.fork [(8, .l)] (.fork [(4, .l), (9, .q), (10, .q)] (.leaf [(6, .l), (11, .l), (12, .q), (13, .q), (14, .l), (15, .q), (16, .q), (17, .l)]) (.leaf [(11, .l), (6, .l), (12, .q), (13, .q), (14, .l), (15, .q), (16, .q), (17, .l)])) (.leaf [(6, .l), (4, .l), (9, .q), (10, .q), (11, .l), (12, .q), (13, .q), (14, .l), (15, .q), (16, .q), (17, .l)])))) mixed (by kernel_rfl) ?_
        replace hs := hs.drew
        refine EWT.fork ?_
        refine EW.move rfl rfl rfl rfl rfl rfl ?_
        refine EW.move rfl rfl rfl rfl rfl rfl ?_
        refine EW.move rfl rfl rfl rfl rfl rfl ?_
        refine EW.move rfl rfl rfl rfl rfl rfl ?_
        refine EW.move rfl rfl rfl rfl rfl rfl ?_
        refine EW.move rfl rfl rfl rfl rfl rfl ?_
        refine EW.ways ?_ ?_
        · refine EWT.fork ?_
          refine EW.makeN elI 0 rfl rfl rfl hs rfl rfl rfl rfl rfl rfl rfl (by show 8 * nodes.length ≤ 281474976710656; omega) (by simp only [maxLen]; omega) ?_
          clear hs; intro b76 w hs
          refine EW.nilCheck rfl rfl rfl rfl rfl rfl ?_
          first | refine EW.fieldAddr rfl rfl rfl rfl rfl rfl ?_ | refine EW.fieldAddrA rfl rfl rfl rfl rfl rfl ?_
          refine EW.ways ?_ ?_
          · refine EWT.fork ?_
            refine EW.makeN elI 0 rfl rfl rfl hs rfl rfl rfl rfl rfl rfl rfl (by show 8 * nodes.length ≤ 281474976710656; omega) (by simp only [maxLen]; omega) ?_
            clear hs; intro b78 w hs
            refine EW.ways ?_ ?_
            · refine EWT.leaf ?_
              refine EW.makeN elI 0 rfl rfl rfl hs rfl rfl rfl rfl rfl rfl rfl (by show 8 * nodes.length ≤ 281474976710656; omega) (by simp only [maxLen]; omega) ?_
              clear hs; intro b80 w hs
              first | refine EW.store hs 0 rfl rfl rfl rfl rfl rfl rfl rfl rfl (by simp [Value.oneCell', Value.cells]) rfl (.inr rfl) ?_ | refine EW.store hs 1 rfl rfl rfl rfl rfl rfl rfl rfl rfl (by simp [Value.oneCell', Value.cells]) rfl (.inr rfl) ?_ | refine EW.store hs 2 rfl rfl rfl rfl rfl rfl rfl rfl rfl (by simp [Value.oneCell', Value.cells]) rfl (.inr rfl) ?_ | refine EW.store hs 3 rfl rfl rfl rfl rfl rfl rfl rfl rfl (by simp [Value.oneCell', Value.cells]) rfl (.inr rfl) ?_ | refine EW.store hs 4 rfl rfl rfl rfl rfl rfl rfl rfl rfl (by simp [Value.oneCell', Value.cells]) rfl (.inr rfl) ?_ | refine EW.store hs 5 rfl rfl rfl rfl rfl rfl rfl rfl rfl (by simp [Value.oneCell', Value.cells]) rfl (.inr rfl) ?_ | refine EW.store hs 6 rfl rfl rfl rfl rfl rfl rfl rfl rfl (by simp [Value.oneCell', Value.cells]) rfl (.inr rfl) ?_
              clear hs; intro w hs; dsimp only [List.set, setAt] at hs
              refine EW.nilCheck rfl rfl rfl rfl rfl rfl ?_
              first | refine EW.fieldAddr rfl rfl rfl rfl rfl rfl ?_ | refine EW.fieldAddrA rfl rfl rfl rfl rfl rfl ?_
              first | refine EW.store hs 0 rfl rfl rfl rfl rfl rfl rfl rfl rfl (by simp [Value.oneCell', Value.cells]) rfl (.inr rfl) ?_ | refine EW.store hs 1 rfl rfl rfl rfl rfl rfl rfl rfl rfl (by simp [Value.oneCell', Value.cells]) rfl (.inr rfl) ?_ | refine EW.store hs 2 rfl rfl rfl rfl rfl rfl rfl rfl rfl (by simp [Value.oneCell', Value.cells]) rfl (.inr rfl) ?_ | refine EW.store hs 3 rfl rfl rfl rfl rfl rfl rfl rfl rfl (by simp [Value.oneCell', Value.cells]) rfl (.inr rfl) ?_ | refine EW.store hs 4 rfl rfl rfl rfl rfl rfl rfl rfl rfl (by simp [Value.oneCell', Value.cells]) rfl (.inr rfl) ?_ | refine EW.store hs 5 rfl rfl rfl rfl rfl rfl rfl rfl rfl (by simp [Value.oneCell', Value.cells]) rfl (.inr rfl) ?_ | refine EW.store hs 6 rfl rfl rfl rfl rfl rfl rfl rfl rfl (by simp [Value.oneCell', Value.cells]) rfl (.inr rfl) ?_
              clear hs; intro w hs; dsimp only [List.set, setAt] at hs
              refine EW.nilCheck rfl rfl rfl rfl rfl rfl ?_
              first | refine EW.fieldAddr rfl rfl rfl rfl rfl rfl ?_ | refine EW.fieldAddrA rfl rfl rfl rfl rfl rfl ?_
              first | refine EW.store hs 0 rfl rfl rfl rfl rfl rfl rfl rfl rfl (by simp [Value.oneCell', Value.cells]) rfl (.inr rfl) ?_ | refine EW.store hs 1 rfl rfl rfl rfl rfl rfl rfl rfl rfl (by simp [Value.oneCell', Value.cells]) rfl (.inr rfl) ?_ | refine EW.store hs 2 rfl rfl rfl rfl rfl rfl rfl rfl rfl (by simp [Value.oneCell', Value.cells]) rfl (.inr rfl) ?_ | refine EW.store hs 3 rfl rfl rfl rfl rfl rfl rfl rfl rfl (by simp [Value.oneCell', Value.cells]) rfl (.inr rfl) ?_ | refine EW.store hs 4 rfl rfl rfl rfl rfl rfl rfl rfl rfl (by simp [Value.oneCell', Value.cells]) rfl (.inr rfl) ?_ | refine EW.store hs 5 rfl rfl rfl rfl rfl rfl rfl rfl rfl (by simp [Value.oneCell', Value.cells]) rfl (.inr rfl) ?_ | refine EW.store hs 6 rfl rfl rfl rfl rfl rfl rfl rfl rfl (by simp [Value.oneCell', Value.cells]) rfl (.inr rfl) ?_
              clear hs; intro w hs; dsimp only [List.set, setAt] at hs
              refine EW.done ?_
              refine NW.meet ((b76, b78, b80)) (by repeat (first | exact trivial | (refine ⟨rfl, ?_⟩))) ?_
              first | exact hs.pick [6, 2, 1, 0, 3, 4, 7] (by decide) | exact hs.pick [6, 2, 0, 1, 3, 4, 7] (by decide) | exact hs.pick [6, 1, 2, 0, 3, 4, 7] (by decide) | exact hs.pick [6, 1, 0, 2, 3, 4, 7] (by decide) | exact hs.pick [6, 0, 1, 2, 3, 4, 7] (by decide) | exact hs.pick [6, 0, 2, 1, 3, 4, 7] (by decide)
            · refine EWT.fork ?_
              first | refine EW.store hs 0 rfl rfl rfl rfl rfl rfl rfl rfl rfl (by simp [Value.oneCell', Value.cells]) rfl (.inr rfl) ?_ | refine EW.store hs 1 rfl rfl rfl rfl rfl rfl rfl rfl rfl (by simp [Value.oneCell', Value.cells]) rfl (.inr rfl) ?_ | refine EW.store hs 2 rfl rfl rfl rfl rfl rfl rfl rfl rfl (by simp [Value.oneCell', Value.cells]) rfl (.inr rfl) ?_ | refine EW.store hs 3 rfl rfl rfl rfl rfl rfl rfl rfl rfl (by simp [Value.oneCell', Value.cells]) rfl (.inr rfl) ?_ | refine EW.store hs 4 rfl rfl rfl rfl rfl rfl rfl rfl rfl (by simp [Value.oneCell', Value.cells]) rfl (.inr rfl) ?_ | refine EW.store hs 5 rfl rfl rfl rfl rfl rfl rfl rfl rfl (by simp [Value.oneCell', Value.cells]) rfl (.inr rfl) ?_ | refine EW.store hs 6 rfl rfl rfl rfl rfl rfl rfl rfl rfl (by simp [Value.oneCell', Value.cells]) rfl (.inr rfl) ?_
              clear hs; intro w hs; dsimp only [List.set, setAt] at hs
              refine EW.nilCheck rfl rfl rfl rfl rfl rfl ?_
              first | refine EW.fieldAddr rfl rfl rfl rfl rfl rfl ?_ | refine EW.fieldAddrA rfl rfl rfl rfl rfl rfl ?_
              refine EW.ways ?_ ?_
              · refine EWT.leaf ?_
                refine EW.makeN elI 0 rfl rfl rfl hs rfl rfl rfl rfl rfl rfl rfl (by show 8 * nodes.length ≤ 281474976710656; omega) (by simp only [maxLen]; omega) ?_
                clear hs; intro b80 w hs
                first | refine EW.store hs 0 rfl rfl rfl rfl rfl rfl rfl rfl rfl (by simp [Value.oneCell', Value.cells]) rfl (.inr rfl) ?_ | refine EW.store hs 1 rfl rfl rfl rfl rfl rfl rfl rfl rfl (by simp [Value.oneCell', Value.cells]) rfl (.inr rfl) ?_ | refine EW.store hs 2 rfl rfl rfl rfl rfl rfl rfl rfl rfl (by simp [Value.oneCell', Value.cells]) rfl (.inr rfl) ?_ | refine EW.store hs 3 rfl rfl rfl rfl rfl rfl rfl rfl rfl (by simp [Value.oneCell', Value.cells]) rfl (.inr rfl) ?_ | refine EW.store hs 4 rfl rfl rfl rfl rfl rfl rfl rfl rfl (by simp [Value.oneCell', Value.cells]) rfl (.inr rfl) ?_ | refine EW.store hs 5 rfl rfl rfl rfl rfl rfl rfl rfl rfl (by simp [Value.oneCell', Value.cells]) rfl (.inr rfl) ?_ | refine EW.store hs 6 rfl rfl rfl rfl rfl rfl rfl rfl rfl (by simp [Value.oneCell', Value.cells]) rfl (.inr rfl) ?_
                clear hs; intro w hs; dsimp only [List.set, setAt] at hs
                refine EW.nilCheck rfl rfl rfl rfl rfl rfl ?_
                first | refine EW.fieldAddr rfl rfl rfl rfl rfl rfl ?_ | refine EW.fieldAddrA rfl rfl rfl rfl rfl rfl ?_
                first | refine EW.store hs 0 rfl rfl rfl rfl rfl rfl rfl rfl rfl (by simp [Value.oneCell', Value.cells]) rfl (.inr rfl) ?_ | refine EW.store hs 1 rfl rfl rfl rfl rfl rfl rfl rfl rfl (by simp [Value.oneCell', Value.cells]) rfl (.inr rfl) ?_ | refine EW.store hs 2 rfl rfl rfl rfl rfl rfl rfl rfl rfl (by simp [Value.oneCell', Value.cells]) rfl (.inr rfl) ?_ | refine EW.store hs 3 rfl rfl rfl rfl rfl rfl rfl rfl rfl (by simp [Value.oneCell', Value.cells]) rfl (.inr rfl) ?_ | refine EW.store hs 4 rfl rfl rfl rfl rfl rfl rfl rfl rfl (by simp [Value.oneCell', Value.cells]) rfl (.inr rfl) ?_ | refine EW.store hs 5 rfl rfl rfl rfl rfl rfl rfl rfl rfl (by simp [Value.oneCell', Value.cells]) rfl (.inr rfl) ?_ | refine EW.store hs 6 rfl rfl rfl rfl rfl rfl rfl rfl rfl (by simp [Value.oneCell', Value.cells]) rfl (.inr rfl) ?_
                clear hs; intro w hs; dsimp only [List.set, setAt] at hs
                refine EW.done ?_
                refine NW.meet ((b76, b78, b80)) (by repeat (first | exact trivial | (refine ⟨rfl, ?_⟩))) ?_
                first | exact hs.pick [6, 2, 1, 0, 3, 4, 7] (by decide) | exact hs.pick [6, 2, 0, 1, 3, 4, 7] (by decide) | exact hs.pick [6, 1, 2, 0, 3, 4, 7] (by decide) | exact hs.pick [6, 1, 0, 2, 3, 4, 7] (by decide) | exact hs.pick [6, 0, 1, 2, 3, 4, 7] (by decide) | exact hs.pick [6, 0, 2, 1, 3, 4, 7] (by decide)
              · refine EWT.leaf ?_
                first | refine EW.store hs 0 rfl rfl rfl rfl rfl rfl rfl rfl rfl (by simp [Value.oneCell', Value.cells]) rfl (.inr rfl) ?_ | refine EW.store hs 1 rfl rfl rfl rfl rfl rfl rfl rfl rfl (by simp [Value.oneCell', Value.cells]) rfl (.inr rfl) ?_ | refine EW.store hs 2 rfl rfl rfl rfl rfl rfl rfl rfl rfl (by simp [Value.oneCell', Value.cells]) rfl (.inr rfl) ?_ | refine EW.store hs 3 rfl rfl rfl rfl rfl rfl rfl rfl rfl (by simp [Value.oneCell', Value.cells]) rfl (.inr rfl) ?_ | refine EW.store hs 4 rfl rfl rfl rfl rfl rfl rfl rfl rfl (by simp [Value.oneCell', Value.cells]) rfl (.inr rfl) ?_ | refine EW.store hs 5 rfl rfl rfl rfl rfl rfl rfl rfl rfl (by simp [Value.oneCell', Value.cells]) rfl (.inr rfl) ?_ | refine EW.store hs 6 rfl rfl rfl rfl rfl rfl rfl rfl rfl (by simp [Value.oneCell', Value.cells]) rfl (.inr rfl) ?_
                clear hs; intro w hs; dsimp only [List.set, setAt] at hs
                refine EW.makeN elI 0 rfl rfl rfl hs rfl rfl rfl rfl rfl rfl rfl (by show 8 * nodes.length ≤ 281474976710656; omega) (by simp only [maxLen]; omega) ?_
                clear hs; intro b80 w hs
                refine EW.nilCheck rfl rfl rfl rfl rfl rfl ?_
                first | refine EW.fieldAddr rfl rfl rfl rfl rfl rfl ?_ | refine EW.fieldAddrA rfl rfl rfl rfl rfl rfl ?_
                first | refine EW.store hs 0 rfl rfl rfl rfl rfl rfl rfl rfl rfl (by simp [Value.oneCell', Value.cells]) rfl (.inr rfl) ?_ | refine EW.store hs 1 rfl rfl rfl rfl rfl rfl rfl rfl rfl (by simp [Value.oneCell', Value.cells]) rfl (.inr rfl) ?_ | refine EW.store hs 2 rfl rfl rfl rfl rfl rfl rfl rfl rfl (by simp [Value.oneCell', Value.cells]) rfl (.inr rfl) ?_ | refine EW.store hs 3 rfl rfl rfl rfl rfl rfl rfl rfl rfl (by simp [Value.oneCell', Value.cells]) rfl (.inr rfl) ?_ | refine EW.store hs 4 rfl rfl rfl rfl rfl rfl rfl rfl rfl (by simp [Value.oneCell', Value.cells]) rfl (.inr rfl) ?_ | refine EW.store hs 5 rfl rfl rfl rfl rfl rfl rfl rfl rfl (by simp [Value.oneCell', Value.cells]) rfl (.inr rfl) ?_ | refine EW.store hs 6 rfl rfl rfl rfl rfl rfl rfl rfl rfl (by simp [Value.oneCell', Value.cells]) rfl (.inr rfl) ?_
                clear hs; intro w hs; dsimp only [List.set, setAt] at hs
                refine EW.done ?_
                refine NW.meet ((b76, b78, b80)) (by repeat (first | exact trivial | (refine ⟨rfl, ?_⟩))) ?_
                first | exact hs.pick [6, 2, 1, 0, 3, 4, 7] (by decide) | exact hs.pick [6, 2, 0, 1, 3, 4, 7] (by decide) | exact hs.pick [6, 1, 2, 0, 3, 4, 7] (by decide) | exact hs.pick [6, 1, 0, 2, 3, 4, 7] (by decide) | exact hs.pick [6, 0, 1, 2, 3, 4, 7] (by decide) | exact hs.pick [6, 0, 2, 1, 3, 4, 7] (by decide)
          · refine EWT.fork ?_
            refine EW.ways ?_ ?_
            · refine EWT.fork ?_
              refine EW.makeN elI 0 rfl rfl rfl hs rfl rfl rfl rfl rfl rfl rfl (by show 8 * nodes.length ≤ 281474976710656; omega) (by simp only [maxLen]; omega) ?_
              clear hs; intro b80 w hs
              refine EW.ways ?_ ?_
              · refine EWT.leaf ?_
                refine EW.makeN elI 0 rfl rfl rfl hs rfl rfl rfl rfl rfl rfl rfl (by show 8 * nodes.length ≤ 281474976710656; omega) (by simp only [maxLen]; omega) ?_
                clear hs; intro b78 w hs
                first | refine EW.store hs 0 rfl rfl rfl rfl rfl rfl rfl rfl rfl (by simp [Value.oneCell', Value.cells]) rfl (.inr rfl) ?_ | refine EW.store hs 1 rfl rfl rfl rfl rfl rfl rfl rfl rfl (by simp [Value.oneCell', Value.cells]) rfl (.inr rfl) ?_ | refine EW.store hs 2 rfl rfl rfl rfl rfl rfl rfl rfl rfl (by simp [Value.oneCell', Value.cells]) rfl (.inr rfl) ?_ | refine EW.store hs 3 rfl rfl rfl rfl rfl rfl rfl rfl rfl (by simp [Value.oneCell', Value.cells]) rfl (.inr rfl) ?_ | refine EW.store hs 4 rfl rfl rfl rfl rfl rfl rfl rfl rfl (by simp [Value.oneCell', Value.cells]) rfl (.inr rfl) ?_ | refine EW.store hs 5 rfl rfl rfl rfl rfl rfl rfl rfl rfl (by simp [Value.oneCell', Value.cells]) rfl (.inr rfl) ?_ | refine EW.store hs 6 rfl rfl rfl rfl rfl rfl rfl rfl rfl (by simp [Value.oneCell', Value.cells]) rfl (.inr rfl) ?_
                clear hs; intro w hs; dsimp only [List.set, setAt] at hs
                refine EW.nilCheck rfl rfl rfl rfl rfl rfl ?_
                first | refine EW.fieldAddr rfl rfl rfl rfl rfl rfl ?_ | refine EW.fieldAddrA rfl rfl rfl rfl rfl rfl ?_
                first | refine EW.store hs 0 rfl rfl rfl rfl rfl rfl rfl rfl rfl (by simp [Value.oneCell', Value.cells]) rfl (.inr rfl) ?_ | refine EW.store hs 1 rfl rfl rfl rfl rfl rfl rfl rfl rfl (by simp [Value.oneCell', Value.cells]) rfl (.inr rfl) ?_ | refine EW.store hs 2 rfl rfl rfl rfl rfl rfl rfl rfl rfl (by simp [Value.oneCell', Value.cells]) rfl (.inr rfl) ?_ | refine EW.store hs 3 rfl rfl rfl rfl rfl rfl rfl rfl rfl (by simp [Value.oneCell', Value.cells]) rfl (.inr rfl) ?_ | refine EW.store hs 4 rfl rfl rfl rfl rfl rfl rfl rfl rfl (by simp [Value.oneCell', Value.cells]) rfl (.inr rfl) ?_ | refine EW.store hs 5 rfl rfl rfl rfl rfl rfl rfl rfl rfl (by simp [Value.oneCell', Value.cells]) rfl (.inr rfl) ?_ | refine EW.store hs 6 rfl rfl rfl rfl rfl rfl rfl rfl rfl (by simp [Value.oneCell', Value.cells]) rfl (.inr rfl) ?_
                clear hs; intro w hs; dsimp only [List.set, setAt] at hs
                refine EW.nilCheck rfl rfl rfl rfl rfl rfl ?_
                first | refine EW.fieldAddr rfl rfl rfl rfl rfl rfl ?_ | refine EW.fieldAddrA rfl rfl rfl rfl rfl rfl ?_
                first | refine EW.store hs 0 rfl rfl rfl rfl rfl rfl rfl rfl rfl (by simp [Value.oneCell', Value.cells]) rfl (.inr rfl) ?_ | refine EW.store hs 1 rfl rfl rfl rfl rfl rfl rfl rfl rfl (by simp [Value.oneCell', Value.cells]) rfl (.inr rfl) ?_ | refine EW.store hs 2 rfl rfl rfl rfl rfl rfl rfl rfl rfl (by simp [Value.oneCell', Value.cells]) rfl (.inr rfl) ?_ | refine EW.store hs 3 rfl rfl rfl rfl rfl rfl rfl rfl rfl (by simp [Value.oneCell', Value.cells]) rfl (.inr rfl) ?_ | refine EW.store hs 4 rfl rfl rfl rfl rfl rfl rfl rfl rfl (by simp [Value.oneCell', Value.cells]) rfl (.inr rfl) ?_ | refine EW.store hs 5 rfl rfl rfl rfl rfl rfl rfl rfl rfl (by simp [Value.oneCell', Value.cells]) rfl (.inr rfl) ?_ | refine EW.store hs 6 rfl rfl rfl rfl rfl rfl rfl rfl rfl (by simp [Value.oneCell', Value.cells]) rfl (.inr rfl) ?_
                clear hs; intro w hs; dsimp only [List.set, setAt] at hs
                refine EW.done ?_
                refine NW.meet ((b76, b78, b80)) (by repeat (first | exact trivial | (refine ⟨rfl, ?_⟩))) ?_
                first | exact hs.pick [6, 2, 1, 0, 3, 4, 7] (by decide) | exact hs.pick [6, 2, 0, 1, 3, 4, 7] (by decide) | exact hs.pick [6, 1, 2, 0, 3, 4, 7] (by decide) | exact hs.pick [6, 1, 0, 2, 3, 4, 7] (by decide) | exact hs.pick [6, 0, 1, 2, 3, 4, 7] (by decide) | exact hs.pick [6, 0, 2, 1, 3, 4, 7] (by decide)
              · refine EWT.leaf ?_
                first | refine EW.store hs 0 rfl rfl rfl rfl rfl rfl rfl rfl rfl (by simp [Value.oneCell', Value.cells]) rfl (.inr rfl) ?_ | refine EW.store hs 1 rfl rfl rfl rfl rfl rfl rfl rfl rfl (by simp [Value.oneCell', Value.cells]) rfl (.inr rfl) ?_ | refine EW.store hs 2 rfl rfl rfl rfl rfl rfl rfl rfl rfl (by simp [Value.oneCell', Value.cells]) rfl (.inr rfl) ?_ | refine EW.store hs 3 rfl rfl rfl rfl rfl rfl rfl rfl rfl (by simp [Value.oneCell', Value.cells]) rfl (.inr rfl) ?_ | refine EW.store hs 4 rfl rfl rfl rfl rfl rfl rfl rfl rfl (by simp [Value.oneCell', Value.cells]) rfl (.inr rfl) ?_ | refine EW.store hs 5 rfl rfl rfl rfl rfl rfl rfl rfl rfl (by simp [Value.oneCell', Value.cells]) rfl (.inr rfl) ?_ | refine EW.store hs 6 rfl rfl rfl rfl rfl rfl rfl rfl rfl (by simp [Value.oneCell', Value.cells]) rfl (.inr rfl) ?_
                clear hs; intro w hs; dsimp only [List.set, setAt] at hs
                refine EW.makeN elI 0 rfl rfl rfl hs rfl rfl rfl rfl rfl rfl rfl (by show 8 * nodes.length ≤ 281474976710656; omega) (by simp only [maxLen]; omega) ?_
                clear hs; intro b78 w hs
                refine EW.nilCheck rfl rfl rfl rfl rfl rfl ?_
                first | refine EW.fieldAddr rfl rfl rfl rfl rfl rfl ?_ | refine EW.fieldAddrA rfl rfl rfl rfl rfl rfl ?_
                first | refine EW.store hs 0 rfl rfl rfl rfl rfl rfl rfl rfl rfl (by simp [Value.oneCell', Value.cells]) rfl (.inr rfl) ?_ | refine EW.store hs 1 rfl rfl rfl rfl rfl rfl rfl rfl rfl (by simp [Value.oneCell', Value.cells]) rfl (.inr rfl) ?_ | refine EW.store hs 2 rfl rfl rfl rfl rfl rfl rfl rfl rfl (by simp [Value.oneCell', Value.cells]) rfl (.inr rfl) ?_ | refine EW.store hs 3 rfl rfl rfl rfl rfl rfl rfl rfl rfl (by simp [Value.oneCell', Value.cells]) rfl (.inr rfl) ?_ | refine EW.store hs 4 rfl rfl rfl rfl rfl rfl rfl rfl rfl (by simp [Value.oneCell', Value.cells]) rfl (.inr rfl) ?_ | refine EW.store hs 5 rfl rfl rfl rfl rfl rfl rfl rfl rfl (by simp [Value.oneCell', Value.cells]) rfl (.inr rfl) ?_ | refine EW.store hs 6 rfl rfl rfl rfl rfl rfl rfl rfl rfl (by simp [Value.oneCell', Value.cells]) rfl (.inr rfl) ?_
                clear hs; intro w hs; dsimp only [List.set, setAt] at hs
                refine EW.nilCheck rfl rfl rfl rfl rfl rfl ?_
                first | refine EW.fieldAddr rfl rfl rfl rfl rfl rfl ?_ | refine EW.fieldAddrA rfl rfl rfl rfl rfl rfl ?_
                first | refine EW.store hs 0 rfl rfl rfl rfl rfl rfl rfl rfl rfl (by simp [Value.oneCell', Value.cells]) rfl (.inr rfl) ?_ | refine EW.store hs 1 rfl rfl rfl rfl rfl rfl rfl rfl rfl (by simp [Value.oneCell', Value.cells]) rfl (.inr rfl) ?_ | refine EW.store hs 2 rfl rfl rfl rfl rfl rfl rfl rfl rfl (by simp [Value.oneCell', Value.cells]) rfl (.inr rfl) ?_ | refine EW.store hs 3 rfl rfl rfl rfl rfl rfl rfl rfl rfl (by simp [Value.oneCell', Value.cells]) rfl (.inr rfl) ?_ | refine EW.store hs 4 rfl rfl rfl rfl rfl rfl rfl rfl rfl (by simp [Value.oneCell', Value.cells]) rfl (.inr rfl) ?_ | refine EW.store hs 5 rfl rfl rfl rfl rfl rfl rfl rfl rfl (by simp [Value.oneCell', Value.cells]) rfl (.inr rfl) ?_ | refine EW.store hs 6 rfl rfl rfl rfl rfl rfl rfl rfl rfl (by simp [Value.oneCell', Value.cells]) rfl (.inr rfl) ?_
                clear hs; intro w hs; dsimp only [List.set, setAt] at hs
                refine EW.done ?_
                refine NW.meet ((b76, b78, b80)) (by repeat (first | exact trivial | (refine ⟨rfl, ?_⟩))) ?_
                first | exact hs.pick [6, 2, 1, 0, 3, 4, 7] (by decide) | exact hs.pick [6, 2, 0, 1, 3, 4, 7] (by decide) | exact hs.pick [6, 1, 2, 0, 3, 4, 7] (by decide) | exact hs.pick [6, 1, 0, 2, 3, 4, 7] (by decide) | exact hs.pick [6, 0, 1, 2, 3, 4, 7] (by decide) | exact hs.pick [6, 0, 2, 1, 3, 4, 7] (by decide)
            · refine EWT.fork ?_
              first | refine EW.store hs 0 rfl rfl rfl rfl rfl rfl rfl rfl rfl (by simp [Value.oneCell', Value.cells]) rfl (.inr rfl) ?_ | refine EW.store hs 1 rfl rfl rfl rfl rfl rfl rfl rfl rfl (by simp [Value.oneCell', Value.cells]) rfl (.inr rfl) ?_ | refine EW.store hs 2 rfl rfl rfl rfl rfl rfl rfl rfl rfl (by simp [Value.oneCell', Value.cells]) rfl (.inr rfl) ?_ | refine EW.store hs 3 rfl rfl rfl rfl rfl rfl rfl rfl rfl (by simp [Value.oneCell', Value.cells]) rfl (.inr rfl) ?_ | refine EW.store hs 4 rfl rfl rfl rfl rfl rfl rfl rfl rfl (by simp [Value.oneCell', Value.cells]) rfl (.inr rfl) ?_ | refine EW.store hs 5 rfl rfl rfl rfl rfl rfl rfl rfl rfl (by simp [Value.oneCell', Value.cells]) rfl (.inr rfl) ?_ | refine EW.store hs 6 rfl rfl rfl rfl rfl rfl rfl rfl rfl (by simp [Value.oneCell', Value.cells]) rfl (.inr rfl) ?_
              clear hs; intro w hs; dsimp only [List.set, setAt] at hs
              refine EW.ways ?_ ?_
              · refine EWT.fork ?_
                refine EW.makeN elI 0 rfl rfl rfl hs rfl rfl rfl rfl rfl rfl rfl (by show 8 * nodes.length ≤ 281474976710656; omega) (by simp only [maxLen]; omega) ?_
                clear hs; intro b78 w hs
                refine EW.nilCheck rfl rfl rfl rfl rfl rfl ?_
                first | refine EW.fieldAddr rfl rfl rfl rfl rfl rfl ?_ | refine EW.fieldAddrA rfl rfl rfl rfl rfl rfl ?_
                refine EW.ways ?_ ?_
                · refine EWT.leaf ?_
                  refine EW.makeN elI 0 rfl rfl rfl hs rfl rfl rfl rfl rfl rfl rfl (by show 8 * nodes.length ≤ 281474976710656; omega) (by simp only [maxLen]; omega) ?_
                  clear hs; intro b80 w hs
                  first | refine EW.store hs 0 rfl rfl rfl rfl rfl rfl rfl rfl rfl (by simp [Value.oneCell', Value.cells]) rfl (.inr rfl) ?_ | refine EW.store hs 1 rfl rfl rfl rfl rfl rfl rfl rfl rfl (by simp [Value.oneCell', Value.cells]) rfl (.inr rfl) ?_ | refine EW.store hs 2 rfl rfl rfl rfl rfl rfl rfl rfl rfl (by simp [Value.oneCell', Value.cells]) rfl (.inr rfl) ?_ | refine EW.store hs 3 rfl rfl rfl rfl rfl rfl rfl rfl rfl (by simp [Value.oneCell', Value.cells]) rfl (.inr rfl) ?_ | refine EW.store hs 4 rfl rfl rfl rfl rfl rfl rfl rfl rfl (by simp [Value.oneCell', Value.cells]) rfl (.inr rfl) ?_ | refine EW.store hs 5 rfl rfl rfl rfl rfl rfl rfl rfl rfl (by simp [Value.oneCell', Value.cells]) rfl (.inr rfl) ?_ | refine EW.store hs 6 rfl rfl rfl rfl rfl rfl rfl rfl rfl (by simp [Value.oneCell', Value.cells]) rfl (.inr rfl) ?_
                  clear hs; intro w hs; dsimp only [List.set, setAt] at hs
                  refine EW.nilCheck rfl rfl rfl rfl rfl rfl ?_
                  first | refine EW.fieldAddr rfl rfl rfl rfl rfl rfl ?_ | refine EW.fieldAddrA rfl rfl rfl rfl rfl rfl ?_
                  first | refine EW.store hs 0 rfl rfl rfl rfl rfl rfl rfl rfl rfl (by simp [Value.oneCell', Value.cells]) rfl (.inr rfl) ?_ | refine EW.store hs 1 rfl rfl rfl rfl rfl rfl rfl rfl rfl (by simp [Value.oneCell', Value.cells]) rfl (.inr rfl) ?_ | refine EW.store hs 2 rfl rfl rfl rfl rfl rfl rfl rfl rfl (by simp [Value.oneCell', Value.cells]) rfl (.inr rfl) ?_ | refine EW.store hs 3 rfl rfl rfl rfl rfl rfl rfl rfl rfl (by simp [Value.oneCell', Value.cells]) rfl (.inr rfl) ?_ | refine EW.store hs 4 rfl rfl rfl rfl rfl rfl rfl rfl rfl (by simp [Value.oneCell', Value.cells]) rfl (.inr rfl) ?_ | refine EW.store hs 5 rfl rfl rfl rfl rfl rfl rfl rfl rfl (by simp [Value.oneCell', Value.cells]) rfl (.inr rfl) ?_ | refine EW.store hs 6 rfl rfl rfl rfl rfl rfl rfl rfl rfl (by simp [Value.oneCell', Value.cells]) rfl (.inr rfl) ?_
                  clear hs; intro w hs; dsimp only [List.set, setAt] at hs
                  refine EW.done ?_
                  refine NW.meet ((b76, b78, b80)) (by repeat (first | exact trivial | (refine ⟨rfl, ?_⟩))) ?_
                  first | exact hs.pick [6, 2, 1, 0, 3, 4, 7] (by decide) | exact hs.pick [6, 2, 0, 1, 3, 4, 7] (by decide) | exact hs.pick [6, 1, 2, 0, 3, 4, 7] (by decide) | exact hs.pick [6, 1, 0, 2, 3, 4, 7] (by decide) | exact hs.pick [6, 0, 1, 2, 3, 4, 7] (by decide) | exact hs.pick [6, 0, 2, 1, 3, 4, 7] (by decide)
                · refine EWT.leaf ?_
                  first | refine EW.store hs 0 rfl rfl rfl rfl rfl rfl rfl rfl rfl (by simp [Value.oneCell', Value.cells]) rfl (.inr rfl) ?_ | refine EW.store hs 1 rfl rfl rfl rfl rfl rfl rfl rfl rfl (by simp [Value.oneCell', Value.cells]) rfl (.inr rfl) ?_ | refine EW.store hs 2 rfl rfl rfl rfl rfl rfl rfl rfl rfl (by simp [Value.oneCell', Value.cells]) rfl (.inr rfl) ?_ | refine EW.store hs 3 rfl rfl rfl rfl rfl rfl rfl rfl rfl (by simp [Value.oneCell', Value.cells]) rfl (.inr rfl) ?_ | refine EW.store hs 4 rfl rfl rfl rfl rfl rfl rfl rfl rfl (by simp [Value.oneCell', Value.cells]) rfl (.inr rfl) ?_ | refine EW.store hs 5 rfl rfl rfl rfl rfl rfl rfl rfl rfl (by simp [Value.oneCell', Value.cells]) rfl (.inr rfl) ?_ | refine EW.store hs 6 rfl rfl rfl rfl rfl rfl rfl rfl rfl (by simp [Value.oneCell', Value.cells]) rfl (.inr rfl) ?_
                  clear hs; intro w hs; dsimp only [List.set, setAt] at hs
                  refine EW.makeN elI 0 rfl rfl rfl hs rfl rfl rfl rfl rfl rfl rfl (by show 8 * nodes.length ≤ 281474976710656; omega) (by simp only [maxLen]; omega) ?_
                  clear hs; intro b80 w hs
                  refine EW.nilCheck rfl rfl rfl rfl rfl rfl ?_
                  first | refine EW.fieldAddr rfl rfl rfl rfl rfl rfl ?_ | refine EW.fieldAddrA rfl rfl rfl rfl rfl rfl ?_
                  first | refine EW.store hs 0 rfl rfl rfl rfl rfl rfl rfl rfl rfl (by simp [Value.oneCell', Value.cells]) rfl (.inr rfl) ?_ | refine EW.store hs 1 rfl rfl rfl rfl rfl rfl rfl rfl rfl (by simp [Value.oneCell', Value.cells]) rfl (.inr rfl) ?_ | refine EW.store hs 2 rfl rfl rfl rfl rfl rfl rfl rfl rfl (by simp [Value.oneCell', Value.cells]) rfl (.inr rfl) ?_ | refine EW.store hs 3 rfl rfl rfl rfl rfl rfl rfl rfl rfl (by simp [Value.oneCell', Value.cells]) rfl (.inr rfl) ?_ | refine EW.store hs 4 rfl rfl rfl rfl rfl rfl rfl rfl rfl (by simp [Value.oneCell', Value.cells]) rfl (.inr rfl) ?_ | refine EW.store hs 5 rfl rfl rfl rfl rfl rfl rfl rfl rfl (by simp [Value.oneCell', Value.cells]) rfl (.inr rfl) ?_ | refine EW.store hs 6 rfl rfl rfl rfl rfl rfl rfl rfl rfl (by simp [Value.oneCell', Value.cells]) rfl (.inr rfl) ?_
                  clear hs; intro w hs; dsimp only [List.set, setAt] at hs
                  refine EW.done ?_
                  refine NW.meet ((b76, b78, b80)) (by repeat (first | exact trivial | (refine ⟨rfl, ?_⟩))) ?_
                  first | exact hs.pick [6, 2, 1, 0, 3, 4, 7] (by decide) | exact hs.pick [6, 2, 0, 1, 3, 4, 7] (by decide) | exact hs.pick [6, 1, 2, 0, 3, 4, 7] (by decide) | exact hs.pick [6, 1, 0, 2, 3, 4, 7] (by decide) | exact hs.pick [6, 0, 1, 2, 3, 4, 7] (by decide) | exact hs.pick [6, 0, 2, 1, 3, 4, 7] (by decide)
              · refine EWT.leaf ?_
                refine EW.makeN elI 0 rfl rfl rfl hs rfl rfl rfl rfl rfl rfl rfl (by show 8 * nodes.length ≤ 281474976710656; omega) (by simp only [maxLen]; omega) ?_
                clear hs; intro b80 w hs
                refine EW.makeN elI 0 rfl rfl rfl hs rfl rfl rfl rfl rfl rfl rfl (by show 8 * nodes.length ≤ 281474976710656; omega) (by simp only [maxLen]; omega) ?_
                clear hs; intro b78 w hs
                refine EW.nilCheck rfl rfl rfl rfl rfl rfl ?_
                first | refine EW.fieldAddr rfl rfl rfl rfl rfl rfl ?_ | refine EW.fieldAddrA rfl rfl rfl rfl rfl rfl ?_
                first | refine EW.store hs 0 rfl rfl rfl rfl rfl rfl rfl rfl rfl (by simp [Value.oneCell', Value.cells]) rfl (.inr rfl) ?_ | refine EW.store hs 1 rfl rfl rfl rfl rfl rfl rfl rfl rfl (by simp [Value.oneCell', Value.cells]) rfl (.inr rfl) ?_ | refine EW.store hs 2 rfl rfl rfl rfl rfl rfl rfl rfl rfl (by simp [Value.oneCell', Value.cells]) rfl (.inr rfl) ?_ | refine EW.store hs 3 rfl rfl rfl rfl rfl rfl rfl rfl rfl (by simp [Value.oneCell', Value.cells]) rfl (.inr rfl) ?_ | refine EW.store hs 4 rfl rfl rfl rfl rfl rfl rfl rfl rfl (by simp [Value.oneCell', Value.cells]) rfl (.inr rfl) ?_ | refine EW.store hs 5 rfl rfl rfl rfl rfl rfl rfl rfl rfl (by simp [Value.oneCell', Value.cells]) rfl (.inr rfl) ?_ | refine EW.store hs 6 rfl rfl rfl rfl rfl rfl rfl rfl rfl (by simp [Value.oneCell', Value.cells]) rfl (.inr rfl) ?_
                clear hs; intro w hs; dsimp only [List.set, setAt] at hs
                refine EW.nilCheck rfl rfl rfl rfl rfl rfl ?_
                first | refine EW.fieldAddr rfl rfl rfl rfl rfl rfl ?_ | refine EW.fieldAddrA rfl rfl rfl rfl rfl rfl ?_
                first | refine EW.store hs 0 rfl rfl rfl rfl rfl rfl rfl rfl rfl (by simp [Value.oneCell', Value.cells]) rfl (.inr rfl) ?_ | refine EW.store hs 1 rfl rfl rfl rfl rfl rfl rfl rfl rfl (by simp [Value.oneCell', Value.cells]) rfl (.inr rfl) ?_ | refine EW.store hs 2 rfl rfl rfl rfl rfl rfl rfl rfl rfl (by simp [Value.oneCell', Value.cells]) rfl (.inr rfl) ?_ | refine EW.store hs 3 rfl rfl rfl rfl rfl rfl rfl rfl rfl (by simp [Value.oneCell', Value.cells]) rfl (.inr rfl) ?_ | refine EW.store hs 4 rfl rfl rfl rfl rfl rfl rfl rfl rfl (by simp [Value.oneCell', Value.cells]) rfl (.inr rfl) ?_ | refine EW.store hs 5 rfl rfl rfl rfl rfl rfl rfl rfl rfl (by simp [Value.oneCell', Value.cells]) rfl (.inr rfl) ?_ | refine EW.store hs 6 rfl rfl rfl rfl rfl rfl rfl rfl rfl (by simp [Value.oneCell', Value.cells]) rfl (.inr rfl) ?_
                clear hs; intro w hs; dsimp only [List.set, setAt] at hs
                refine EW.done ?_
                refine NW.meet ((b76, b78, b80)) (by repeat (first | exact trivial | (refine ⟨rfl, ?_⟩))) ?_
                first | exact hs.pick [6, 2, 1, 0, 3, 4, 7] (by decide) | exact hs.pick [6, 2, 0, 1, 3, 4, 7] (by decide) | exact hs.pick [6, 1, 2, 0, 3, 4, 7] (by decide) | exact hs.pick [6, 1, 0, 2, 3, 4, 7] (by decide) | exact hs.pick [6, 0, 1, 2, 3, 4, 7] (by decide) | exact hs.pick [6, 0, 2, 1, 3, 4, 7] (by decide)
        · refine EWT.fork ?_
          refine EW.ways ?_ ?_
          · refine EWT.fork ?_
            refine EW.makeN elI 0 rfl rfl rfl hs rfl rfl rfl rfl rfl rfl rfl (by show 8 * nodes.length ≤ 281474976710656; omega) (by simp only [maxLen]; omega) ?_
            clear hs; intro b78 w hs
            refine EW.ways ?_ ?_
            · refine EWT.fork ?_
              refine EW.makeN elI 0 rfl rfl rfl hs rfl rfl rfl rfl rfl rfl rfl (by show 8 * nodes.length ≤ 281474976710656; omega) (by simp only [maxLen]; omega) ?_
              clear hs; intro b76 w hs
              refine EW.nilCheck rfl rfl rfl rfl rfl rfl ?_
              first | refine EW.fieldAddr rfl rfl rfl rfl rfl rfl ?_ | refine EW.fieldAddrA rfl rfl rfl rfl rfl rfl ?_
              refine EW.ways ?_ ?_
              · refine EWT.leaf ?_
                refine EW.makeN elI 0 rfl rfl rfl hs rfl rfl rfl rfl rfl rfl rfl (by show 8 * nodes.length ≤ 281474976710656; omega) (by simp only [maxLen]; omega) ?_
                clear hs; intro b80 w hs
                first | refine EW.store hs 0 rfl rfl rfl rfl rfl rfl rfl rfl rfl (by simp [Value.oneCell', Value.cells]) rfl (.inr rfl) ?_ | refine EW.store hs 1 rfl rfl rfl rfl rfl rfl rfl rfl rfl (by simp [Value.oneCell', Value.cells]) rfl (.inr rfl) ?_ | refine EW.store hs 2 rfl rfl rfl rfl rfl rfl rfl rfl rfl (by simp [Value.oneCell', Value.cells]) rfl (.inr rfl) ?_ | refine EW.store hs 3 rfl rfl rfl rfl rfl rfl rfl rfl rfl (by simp [Value.oneCell', Value.cells]) rfl (.inr rfl) ?_ | refine EW.store hs 4 rfl rfl rfl rfl rfl rfl rfl rfl rfl (by simp [Value.oneCell', Value.cells]) rfl (.inr rfl) ?_ | refine EW.store hs 5 rfl rfl rfl rfl rfl rfl rfl rfl rfl (by simp [Value.oneCell', Value.cells]) rfl (.inr rfl) ?_ | refine EW.store hs 6 rfl rfl rfl rfl rfl rfl rfl rfl rfl (by simp [Value.oneCell', Value.cells]) rfl (.inr rfl) ?_
                clear hs; intro w hs; dsimp only [List.set, setAt] at hs
                refine EW.nilCheck rfl rfl rfl rfl rfl rfl ?_
                first | refine EW.fieldAddr rfl rfl rfl rfl rfl rfl ?_ | refine EW.fieldAddrA rfl rfl rfl rfl rfl rfl ?_
                first | refine EW.store hs 0 rfl rfl rfl rfl rfl rfl rfl rfl rfl (by simp [Value.oneCell', Value.cells]) rfl (.inr rfl) ?_ | refine EW.store hs 1 rfl rfl rfl rfl rfl rfl rfl rfl rfl (by simp [Value.oneCell', Value.cells]) rfl (.inr rfl) ?_ | refine EW.store hs 2 rfl rfl rfl rfl rfl rfl rfl rfl rfl (by simp [Value.oneCell', Value.cells]) rfl (.inr rfl) ?_ | refine EW.store hs 3 rfl rfl rfl rfl rfl rfl rfl rfl rfl (by simp [Value.oneCell', Value.cells]) rfl (.inr rfl) ?_ | refine EW.store hs 4 rfl rfl rfl rfl rfl rfl rfl rfl rfl (by simp [Value.oneCell', Value.cells]) rfl (.inr rfl) ?_ | refine EW.store hs 5 rfl rfl rfl rfl rfl rfl rfl rfl rfl (by simp [Value.oneCell', Value.cells]) rfl (.inr rfl) ?_ | refine EW.store hs 6 rfl rfl rfl rfl rfl rfl rfl rfl rfl (by simp [Value.oneCell', Value.cells]) rfl (.inr rfl) ?_
                clear hs; intro w hs; dsimp only [List.set, setAt] at hs
                refine EW.nilCheck rfl rfl rfl rfl rfl rfl ?_
                first | refine EW.fieldAddr rfl rfl rfl rfl rfl rfl ?_ | refine EW.fieldAddrA rfl rfl rfl rfl rfl rfl ?_
                first | refine EW.store hs 0 rfl rfl rfl rfl rfl rfl rfl rfl rfl (by simp [Value.oneCell', Value.cells]) rfl (.inr rfl) ?_ | refine EW.store hs 1 rfl rfl rfl rfl rfl rfl rfl rfl rfl (by simp [Value.oneCell', Value.cells]) rfl (.inr rfl) ?_ | refine EW.store hs 2 rfl rfl rfl rfl rfl rfl rfl rfl rfl (by simp [Value.oneCell', Value.cells]) rfl (.inr rfl) ?_ | refine EW.store hs 3 rfl rfl rfl rfl rfl rfl rfl rfl rfl (by simp [Value.oneCell', Value.cells]) rfl (.inr rfl) ?_ | refine EW.store hs 4 rfl rfl rfl rfl rfl rfl rfl rfl rfl (by simp [Value.oneCell', Value.cells]) rfl (.inr rfl) ?_ | refine EW.store hs 5 rfl rfl rfl rfl rfl rfl rfl rfl rfl (by simp [Value.oneCell', Value.cells]) rfl (.inr rfl) ?_ | refine EW.store hs 6 rfl rfl rfl rfl rfl rfl rfl rfl rfl (by simp [Value.oneCell', Value.cells]) rfl (.inr rfl) ?_
                clear hs; intro w hs; dsimp only [List.set, setAt] at hs
                refine EW.done ?_
                refine NW.meet ((b76, b78, b80)) (by repeat (first | exact trivial | (refine ⟨rfl, ?_⟩))) ?_
                first | exact hs.pick [6, 2, 1, 0, 3, 4, 7] (by decide) | exact hs.pick [6, 2, 0, 1, 3, 4, 7] (by decide) | exact hs.pick [6, 1, 2, 0, 3, 4, 7] (by decide) | exact hs.pick [6, 1, 0, 2, 3, 4, 7] (by decide) | exact hs.pick [6, 0, 1, 2, 3, 4, 7] (by decide) | exact hs.pick [6, 0, 2, 1, 3, 4, 7] (by decide)
              · refine EWT.fork ?_
                first | refine EW.store hs 0 rfl rfl rfl rfl rfl rfl rfl rfl rfl (by simp [Value.oneCell', Value.cells]) rfl (.inr rfl) ?_ | refine EW.store hs 1 rfl rfl rfl rfl rfl rfl rfl rfl rfl (by simp [Value.oneCell', Value.cells]) rfl (.inr rfl) ?_ | refine EW.store hs 2 rfl rfl rfl rfl rfl rfl rfl rfl rfl (by simp [Value.oneCell', Value.cells]) rfl (.inr rfl) ?_ | refine EW.store hs 3 rfl rfl rfl rfl rfl rfl rfl rfl rfl (by simp [Value.oneCell', Value.cells]) rfl (.inr rfl) ?_ | refine EW.store hs 4 rfl rfl rfl rfl rfl rfl rfl rfl rfl (by simp [Value.oneCell', Value.cells]) rfl (.inr rfl) ?_ | refine EW.store hs 5 rfl rfl rfl rfl rfl rfl rfl rfl rfl (by simp [Value.oneCell', Value.cells]) rfl (.inr rfl) ?_ | refine EW.store hs 6 rfl rfl rfl rfl rfl rfl rfl rfl rfl (by simp [Value.oneCell', Value.cells]) rfl (.inr rfl) ?_
                clear hs; intro w hs; dsimp only [List.set, setAt] at hs
                refine EW.nilCheck rfl rfl rfl rfl rfl rfl ?_
                first | refine EW.fieldAddr rfl rfl rfl rfl rfl rfl ?_ | refine EW.fieldAddrA rfl rfl rfl rfl rfl rfl ?_
                refine EW.ways ?_ ?_
                · refine EWT.leaf ?_
                  refine EW.makeN elI 0 rfl rfl rfl hs rfl rfl rfl rfl rfl rfl rfl (by show 8 * nodes.length ≤ 281474976710656; omega) (by simp only [maxLen]; omega) ?_
                  clear hs; intro b80 w hs
                  first | refine EW.store hs 0 rfl rfl rfl rfl rfl rfl rfl rfl rfl (by simp [Value.oneCell', Value.cells]) rfl (.inr rfl) ?_ | refine EW.store hs 1 rfl rfl rfl rfl rfl rfl rfl rfl rfl (by simp [Value.oneCell', Value.cells]) rfl (.inr rfl) ?_ | refine EW.store hs 2 rfl rfl rfl rfl rfl rfl rfl rfl rfl (by simp [Value.oneCell', Value.cells]) rfl (.inr rfl) ?_ | refine EW.store hs 3 rfl rfl rfl rfl rfl rfl rfl rfl rfl (by simp [Value.oneCell', Value.cells]) rfl (.inr rfl) ?_ | refine EW.store hs 4 rfl rfl rfl rfl rfl rfl rfl rfl rfl (by simp [Value.oneCell', Value.cells]) rfl (.inr rfl) ?_ | refine EW.store hs 5 rfl rfl rfl rfl rfl rfl rfl rfl rfl (by simp [Value.oneCell', Value.cells]) rfl (.inr rfl) ?_ | refine EW.store hs 6 rfl rfl rfl rfl rfl rfl rfl rfl rfl (by simp [Value.oneCell', Value.cells]) rfl (.inr rfl) ?_
                  clear hs; intro w hs; dsimp only [List.set, setAt] at hs
                  refine EW.nilCheck rfl rfl rfl rfl rfl rfl ?_
                  first | refine EW.fieldAddr rfl rfl rfl rfl rfl rfl ?_ | refine EW.fieldAddrA rfl rfl rfl rfl rfl rfl ?_
                  first | refine EW.store hs 0 rfl rfl rfl rfl rfl rfl rfl rfl rfl (by simp [Value.oneCell', Value.cells]) rfl (.inr rfl) ?_ | refine EW.store hs 1 rfl rfl rfl rfl rfl rfl rfl rfl rfl (by simp [Value.oneCell', Value.cells]) rfl (.inr rfl) ?_ | refine EW.store hs 2 rfl rfl rfl rfl rfl rfl rfl rfl rfl (by simp [Value.oneCell', Value.cells]) rfl (.inr rfl) ?_ | refine EW.store hs 3 rfl rfl rfl rfl rfl rfl rfl rfl rfl (by simp [Value.oneCell', Value.cells]) rfl (.inr rfl) ?_ | refine EW.store hs 4 rfl rfl rfl rfl rfl rfl rfl rfl rfl (by simp [Value.oneCell', Value.cells]) rfl (.inr rfl) ?_ | refine EW.store hs 5 rfl rfl rfl rfl rfl rfl rfl rfl rfl (by simp [Value.oneCell', Value.cells]) rfl (.inr rfl) ?_ | refine EW.store hs 6 rfl rfl rfl rfl rfl rfl rfl rfl rfl (by simp [Value.oneCell', Value.cells]) rfl (.inr rfl) ?_
                  clear hs; intro w hs; dsimp only [List.set, setAt] at hs
                  refine EW.done ?_
                  refine NW.meet ((b76, b78, b80)) (by repeat (first | exact trivial | (refine ⟨rfl, ?_⟩))) ?_
                  first | exact hs.pick [6, 2, 1, 0, 3, 4, 7] (by decide) | exact hs.pick [6, 2, 0, 1, 3, 4, 7] (by decide) | exact hs.pick [6, 1, 2, 0, 3, 4, 7] (by decide) | exact hs.pick [6, 1, 0, 2, 3, 4, 7] (by decide) | exact hs.pick [6, 0, 1, 2, 3, 4, 7] (by decide) | exact hs.pick [6, 0, 2, 1, 3, 4, 7] (by decide)
                · refine EWT.leaf ?_
                  first | refine EW.store hs 0 rfl rfl rfl rfl rfl rfl rfl rfl rfl (by simp [Value.oneCell', Value.cells]) rfl (.inr rfl) ?_ | refine EW.store hs 1 rfl rfl rfl rfl rfl rfl rfl rfl rfl (by simp [Value.oneCell', Value.cells]) rfl (.inr rfl) ?_ | refine EW.store hs 2 rfl rfl rfl rfl rfl rfl rfl rfl rfl (by simp [Value.oneCell', Value.cells]) rfl (.inr rfl) ?_ | refine EW.store hs 3 rfl rfl rfl rfl rfl rfl rfl rfl rfl (by simp [Value.oneCell', Value.cells]) rfl (.inr rfl) ?_ | refine EW.store hs 4 rfl rfl rfl rfl rfl rfl rfl rfl rfl (by simp [Value.oneCell', Value.cells]) rfl (.inr rfl) ?_ | refine EW.store hs 5 rfl rfl rfl rfl rfl rfl rfl rfl rfl (by simp [Value.oneCell', Value.cells]) rfl (.inr rfl) ?_ | refine EW.store hs 6 rfl rfl rfl rfl rfl rfl rfl rfl rfl (by simp [Value.oneCell', Value.cells]) rfl (.inr rfl) ?_
                  clear hs; intro w hs; dsimp only [List.set, setAt] at hs
                  refine EW.makeN elI 0 rfl rfl rfl hs rfl rfl rfl rfl rfl rfl rfl (by show 8 * nodes.length ≤ 281474976710656; omega) (by simp only [maxLen]; omega) ?_
                  clear hs; intro b80 w hs
                  refine EW.nilCheck rfl rfl rfl rfl rfl rfl ?_
                  first | refine EW.fieldAddr rfl rfl rfl rfl rfl rfl ?_ | refine EW.fieldAddrA rfl rfl rfl rfl rfl rfl ?_
                  first | refine EW.store hs 0 rfl rfl rfl rfl rfl rfl rfl rfl rfl (by simp [Value.oneCell', Value.cells]) rfl (.inr rfl) ?_ | refine EW.store hs 1 rfl rfl rfl rfl rfl rfl rfl rfl rfl (by simp [Value.oneCell', Value.cells]) rfl (.inr rfl) ?_ | refine EW.store hs 2 rfl rfl rfl rfl rfl rfl rfl rfl rfl (by simp [Value.oneCell', Value.cells]) rfl (.inr rfl) ?_ | refine EW.store hs 3 rfl rfl rfl rfl rfl rfl rfl rfl rfl (by simp [Value.oneCell', Value.cells]) rfl (.inr rfl) ?_ | refine EW.store hs 4 rfl rfl rfl rfl rfl rfl rfl rfl rfl (by simp [Value.oneCell', Value.cells]) rfl (.inr rfl) ?_ | refine EW.store hs 5 rfl rfl rfl rfl rfl rfl rfl rfl rfl (by simp [Value.oneCell', Value.cells]) rfl (.inr rfl) ?_ | refine EW.store hs 6 rfl rfl rfl rfl rfl rfl rfl rfl rfl (by simp [Value.oneCell', Value.cells]) rfl (.inr rfl) ?_
                  clear hs; intro w hs; dsimp only [List.set, setAt] at hs
                  refine EW.done ?_
                  refine NW.meet ((b76, b78, b80)) (by repeat (first | exact trivial | (refine ⟨rfl, ?_⟩))) ?_
                  first | exact hs.pick [6, 2, 1, 0, 3, 4, 7] (by decide) | exact hs.pick [6, 2, 0, 1, 3, 4, 7] (by decide) | exact hs.pick [6, 1, 2, 0, 3, 4, 7] (by decide) | exact hs.pick [6, 1, 0, 2, 3, 4, 7] (by decide) | exact hs.pick [6, 0, 1, 2, 3, 4, 7] (by decide) | exact hs.pick [6, 0, 2, 1, 3, 4, 7] (by decide)
            · refine EWT.leaf ?_
              refine EW.makeN elI 0 rfl rfl rfl hs rfl rfl rfl rfl rfl rfl rfl (by show 8 * nodes.length ≤ 281474976710656; omega) (by simp only [maxLen]; omega) ?_
              clear hs; intro b80 w hs
              refine EW.makeN elI 0 rfl rfl rfl hs rfl rfl rfl rfl rfl rfl rfl (by show 8 * nodes.length ≤ 281474976710656; omega) (by simp only [maxLen]; omega) ?_
              clear hs; intro b76 w hs
              refine EW.nilCheck rfl rfl rfl rfl rfl rfl ?_
              first | refine EW.fieldAddr rfl rfl rfl rfl rfl rfl ?_ | refine EW.fieldAddrA rfl rfl rfl rfl rfl rfl ?_
              first | refine EW.store hs 0 rfl rfl rfl rfl rfl rfl rfl rfl rfl (by simp [Value.oneCell', Value.cells]) rfl (.inr rfl) ?_ | refine EW.store hs 1 rfl rfl rfl rfl rfl rfl rfl rfl rfl (by simp [Value.oneCell', Value.cells]) rfl (.inr rfl) ?_ | refine EW.store hs 2 rfl rfl rfl rfl rfl rfl rfl rfl rfl (by simp [Value.oneCell', Value.cells]) rfl (.inr rfl) ?_ | refine EW.store hs 3 rfl rfl rfl rfl rfl rfl rfl rfl rfl (by simp [Value.oneCell', Value.cells]) rfl (.inr rfl) ?_ | refine EW.store hs 4 rfl rfl rfl rfl rfl rfl rfl rfl rfl (by simp [Value.oneCell', Value.cells]) rfl (.inr rfl) ?_ | refine EW.store hs 5 rfl rfl rfl rfl rfl rfl rfl rfl rfl (by simp [Value.oneCell', Value.cells]) rfl (.inr rfl) ?_ | refine EW.store hs 6 rfl rfl rfl rfl rfl rfl rfl rfl rfl (by simp [Value.oneCell', Value.cells]) rfl (.inr rfl) ?_
              clear hs; intro w hs; dsimp only [List.set, setAt] at hs
              refine EW.nilCheck rfl rfl rfl rfl rfl rfl ?_
              first | refine EW.fieldAddr rfl rfl rfl rfl rfl rfl ?_ | refine EW.fieldAddrA rfl rfl rfl rfl rfl rfl ?_
              first | refine EW.store hs 0 rfl rfl rfl rfl rfl rfl rfl rfl rfl (by simp [Value.oneCell', Value.cells]) rfl (.inr rfl) ?_ | refine EW.store hs 1 rfl rfl rfl rfl rfl rfl rfl rfl rfl (by simp [Value.oneCell', Value.cells]) rfl (.inr rfl) ?_ | refine EW.store hs 2 rfl rfl rfl rfl rfl rfl rfl rfl rfl (by simp [Value.oneCell', Value.cells]) rfl (.inr rfl) ?_ | refine EW.store hs 3 rfl rfl rfl rfl rfl rfl rfl rfl rfl (by simp [Value.oneCell', Value.cells]) rfl (.inr rfl) ?_ | refine EW.store hs 4 rfl rfl rfl rfl rfl rfl rfl rfl rfl (by simp [Value.oneCell', Value.cells]) rfl (.inr rfl) ?_ | refine EW.store hs 5 rfl rfl rfl rfl rfl rfl rfl rfl rfl (by simp [Value.oneCell', Value.cells]) rfl (.inr rfl) ?_ | refine EW.store hs 6 rfl rfl rfl rfl rfl rfl rfl rfl rfl (by simp [Value.oneCell', Value.cells]) rfl (.inr rfl) ?_
              clear hs; intro w hs; dsimp only [List.set, setAt] at hs
              refine EW.nilCheck rfl rfl rfl rfl rfl rfl ?_
              first | refine EW.fieldAddr rfl rfl rfl rfl rfl rfl ?_ | refine EW.fieldAddrA rfl rfl rfl rfl rfl rfl ?_
              first | refine EW.store hs 0 rfl rfl rfl rfl rfl rfl rfl rfl rfl (by simp [Value.oneCell', Value.cells]) rfl (.inr rfl) ?_ | refine EW.store hs 1 rfl rfl rfl rfl rfl rfl rfl rfl rfl (by simp [Value.oneCell', Value.cells]) rfl (.inr rfl) ?_ | refine EW.store hs 2 rfl rfl rfl rfl rfl rfl rfl rfl rfl (by simp [Value.oneCell', Value.cells]) rfl (.inr rfl) ?_ | refine EW.store hs 3 rfl rfl rfl rfl rfl rfl rfl rfl rfl (by simp [Value.oneCell', Value.cells]) rfl (.inr rfl) ?_ | refine EW.store hs 4 rfl rfl rfl rfl rfl rfl rfl rfl rfl (by simp [Value.oneCell', Value.cells]) rfl (.inr rfl) ?_ | refine EW.store hs 5 rfl rfl rfl rfl rfl rfl rfl rfl rfl (by simp [Value.oneCell', Value.cells]) rfl (.inr rfl) ?_ | refine EW.store hs 6 rfl rfl rfl rfl rfl rfl rfl rfl rfl (by simp [Value.oneCell', Value.cells]) rfl (.inr rfl) ?_
              clear hs; intro w hs; dsimp only [List.set, setAt] at hs
              refine EW.done ?_
              refine NW.meet ((b76, b78, b80)) (by repeat (first | exact trivial | (refine ⟨rfl, ?_⟩))) ?_
              first | exact hs.pick [6, 2, 1, 0, 3, 4, 7] (by decide) | exact hs.pick [6, 2, 0, 1, 3, 4, 7] (by decide) | exact hs.pick [6, 1, 2, 0, 3, 4, 7] (by decide) | exact hs.pick [6, 1, 0, 2, 3, 4, 7] (by decide) | exact hs.pick [6, 0, 1, 2, 3, 4, 7] (by decide) | exact hs.pick [6, 0, 2, 1, 3, 4, 7] (by decide)
          · refine EWT.fork ?_
            refine EW.makeN elI 0 rfl rfl rfl hs rfl rfl rfl rfl rfl rfl rfl (by show 8 * nodes.length ≤ 281474976710656; omega) (by simp only [maxLen]; omega) ?_
            clear hs; intro b80 w hs
            refine EW.ways ?_ ?_
            · refine EWT.fork ?_
              refine EW.makeN elI 0 rfl rfl rfl hs rfl rfl rfl rfl rfl rfl rfl (by show 8 * nodes.length ≤ 281474976710656; omega) (by simp only [maxLen]; omega) ?_
              clear hs; intro b76 w hs
              refine EW.nilCheck rfl rfl rfl rfl rfl rfl ?_
              first | refine EW.fieldAddr rfl rfl rfl rfl rfl rfl ?_ | refine EW.fieldAddrA rfl rfl rfl rfl rfl rfl ?_
              refine EW.ways ?_ ?_
              · refine EWT.leaf ?_
                refine EW.makeN elI 0 rfl rfl rfl hs rfl rfl rfl rfl rfl rfl rfl (by show 8 * nodes.length ≤ 281474976710656; omega) (by simp only [maxLen]; omega) ?_
                clear hs; intro b78 w hs
                first | refine EW.store hs 0 rfl rfl rfl rfl rfl rfl rfl rfl rfl (by simp [Value.oneCell', Value.cells]) rfl (.inr rfl) ?_ | refine EW.store hs 1 rfl rfl rfl rfl rfl rfl rfl rfl rfl (by simp [Value.oneCell', Value.cells]) rfl (.inr rfl) ?_ | refine EW.store hs 2 rfl rfl rfl rfl rfl rfl rfl rfl rfl (by simp [Value.oneCell', Value.cells]) rfl (.inr rfl) ?_ | refine EW.store hs 3 rfl rfl rfl rfl rfl rfl rfl rfl rfl (by simp [Value.oneCell', Value.cells]) rfl (.inr rfl) ?_ | refine EW.store hs 4 rfl rfl rfl rfl rfl rfl rfl rfl rfl (by simp [Value.oneCell', Value.cells]) rfl (.inr rfl) ?_ | refine EW.store hs 5 rfl rfl rfl rfl rfl rfl rfl rfl rfl (by simp [Value.oneCell', Value.cells]) rfl (.inr rfl) ?_ | refine EW.store hs 6 rfl rfl rfl rfl rfl rfl rfl rfl rfl (by simp [Value.oneCell', Value.cells]) rfl (.inr rfl) ?_
                clear hs; intro w hs; dsimp only [List.set, setAt] at hs
                refine EW.nilCheck rfl rfl rfl rfl rfl rfl ?_
                first | refine EW.fieldAddr rfl rfl rfl rfl rfl rfl ?_ | refine EW.fieldAddrA rfl rfl rfl rfl rfl rfl ?_
                first | refine EW.store hs 0 rfl rfl rfl rfl rfl rfl rfl rfl rfl (by simp [Value.oneCell', Value.cells]) rfl (.inr rfl) ?_ | refine EW.store hs 1 rfl rfl rfl rfl rfl rfl rfl rfl rfl (by simp [Value.oneCell', Value.cells]) rfl (.inr rfl) ?_ | refine EW.store hs 2 rfl rfl rfl rfl rfl rfl rfl rfl rfl (by simp [Value.oneCell', Value.cells]) rfl (.inr rfl) ?_ | refine EW.store hs 3 rfl rfl rfl rfl rfl rfl rfl rfl rfl (by simp [Value.oneCell', Value.cells]) rfl (.inr rfl) ?_ | refine EW.store hs 4 rfl rfl rfl rfl rfl rfl rfl rfl rfl (by simp [Value.oneCell', Value.cells]) rfl (.inr rfl) ?_ | refine EW.store hs 5 rfl rfl rfl rfl rfl rfl rfl rfl rfl (by simp [Value.oneCell', Value.cells]) rfl (.inr rfl) ?_ | refine EW.store hs 6 rfl rfl rfl rfl rfl rfl rfl rfl rfl (by simp [Value.oneCell', Value.cells]) rfl (.inr rfl) ?_
                clear hs; intro w hs; dsimp only [List.set, setAt] at hs
                refine EW.nilCheck rfl rfl rfl rfl rfl rfl ?_
                first | refine EW.fieldAddr rfl rfl rfl rfl rfl rfl ?_ | refine EW.fieldAddrA rfl rfl rfl rfl rfl rfl ?_
                first | refine EW.store hs 0 rfl rfl rfl rfl rfl rfl rfl rfl rfl (by simp [Value.oneCell', Value.cells]) rfl (.inr rfl) ?_ | refine EW.store hs 1 rfl rfl rfl rfl rfl rfl rfl rfl rfl (by simp [Value.oneCell', Value.cells]) rfl (.inr rfl) ?_ | refine EW.store hs 2 rfl rfl rfl rfl rfl rfl rfl rfl rfl (by simp [Value.oneCell', Value.cells]) rfl (.inr rfl) ?_ | refine EW.store hs 3 rfl rfl rfl rfl rfl rfl rfl rfl rfl (by simp [Value.oneCell', Value.cells]) rfl (.inr rfl) ?_ | refine EW.store hs 4 rfl rfl rfl rfl rfl rfl rfl rfl rfl (by simp [Value.oneCell', Value.cells]) rfl (.inr rfl) ?_ | refine EW.store hs 5 rfl rfl rfl rfl rfl rfl rfl rfl rfl (by simp [Value.oneCell', Value.cells]) rfl (.inr rfl) ?_ | refine EW.store hs 6 rfl rfl rfl rfl rfl rfl rfl rfl rfl (by simp [Value.oneCell', Value.cells]) rfl (.inr rfl) ?_
                clear hs; intro w hs; dsimp only [List.set, setAt] at hs
                refine EW.done ?_
                refine NW.meet ((b76, b78, b80)) (by repeat (first | exact trivial | (refine ⟨rfl, ?_⟩))) ?_
                first | exact hs.pick [6, 2, 1, 0, 3, 4, 7] (by decide) | exact hs.pick [6, 2, 0, 1, 3, 4, 7] (by decide) | exact hs.pick [6, 1, 2, 0, 3, 4, 7] (by decide) | exact hs.pick [6, 1, 0, 2, 3, 4, 7] (by decide) | exact hs.pick [6, 0, 1, 2, 3, 4, 7] (by decide) | exact hs.pick [6, 0, 2, 1, 3, 4, 7] (by decide)
              · refine EWT.leaf ?_
                first | refine EW.store hs 0 rfl rfl rfl rfl rfl rfl rfl rfl rfl (by simp [Value.oneCell', Value.cells]) rfl (.inr rfl) ?_ | refine EW.store hs 1 rfl rfl rfl rfl rfl rfl rfl rfl rfl (by simp [Value.oneCell', Value.cells]) rfl (.inr rfl) ?_ | refine EW.store hs 2 rfl rfl rfl rfl rfl rfl rfl rfl rfl (by simp [Value.oneCell', Value.cells]) rfl (.inr rfl) ?_ | refine EW.store hs 3 rfl rfl rfl rfl rfl rfl rfl rfl rfl (by simp [Value.oneCell', Value.cells]) rfl (.inr rfl) ?_ | refine EW.store hs 4 rfl rfl rfl rfl rfl rfl rfl rfl rfl (by simp [Value.oneCell', Value.cells]) rfl (.inr rfl) ?_ | refine EW.store hs 5 rfl rfl rfl rfl rfl rfl rfl rfl rfl (by simp [Value.oneCell', Value.cells]) rfl (.inr rfl) ?_ | refine EW.store hs 6 rfl rfl rfl rfl rfl rfl rfl rfl rfl (by simp [Value.oneCell', Value.cells]) rfl (.inr rfl) ?_
                clear hs; intro w hs; dsimp only [List.set, setAt] at hs
                refine EW.makeN elI 0 rfl rfl rfl hs rfl rfl rfl rfl rfl rfl rfl (by show 8 * nodes.length ≤ 281474976710656; omega) (by simp only [maxLen]; omega) ?_
                clear hs; intro b78 w hs
                refine EW.nilCheck rfl rfl rfl rfl rfl rfl ?_
                first | refine EW.fieldAddr rfl rfl rfl rfl rfl rfl ?_ | refine EW.fieldAddrA rfl rfl rfl rfl rfl rfl ?_
                first | refine EW.store hs 0 rfl rfl rfl rfl rfl rfl rfl rfl rfl (by simp [Value.oneCell', Value.cells]) rfl (.inr rfl) ?_ | refine EW.store hs 1 rfl rfl rfl rfl rfl rfl rfl rfl rfl (by simp [Value.oneCell', Value.cells]) rfl (.inr rfl) ?_ | refine EW.store hs 2 rfl rfl rfl rfl rfl rfl rfl rfl rfl (by simp [Value.oneCell', Value.cells]) rfl (.inr rfl) ?_ | refine EW.store hs 3 rfl rfl rfl rfl rfl rfl rfl rfl rfl (by simp [Value.oneCell', Value.cells]) rfl (.inr rfl) ?_ | refine EW.store hs 4 rfl rfl rfl rfl rfl rfl rfl rfl rfl (by simp [Value.oneCell', Value.cells]) rfl (.inr rfl) ?_ | refine EW.store hs 5 rfl rfl rfl rfl rfl rfl rfl rfl rfl (by simp [Value.oneCell', Value.cells]) rfl (.inr rfl) ?_ | refine EW.store hs 6 rfl rfl rfl rfl rfl rfl rfl rfl rfl (by simp [Value.oneCell', Value.cells]) rfl (.inr rfl) ?_
                clear hs; intro w hs; dsimp only [List.set, setAt] at hs
                refine EW.nilCheck rfl rfl rfl rfl rfl rfl ?_
                first | refine EW.fieldAddr rfl rfl rfl rfl rfl rfl ?_ | refine EW.fieldAddrA rfl rfl rfl rfl rfl rfl ?_
                first | refine EW.store hs 0 rfl rfl rfl rfl rfl rfl rfl rfl rfl (by simp [Value.oneCell', Value.cells]) rfl (.inr rfl) ?_ | refine EW.store hs 1 rfl rfl rfl rfl rfl rfl rfl rfl rfl (by simp [Value.oneCell', Value.cells]) rfl (.inr rfl) ?_ | refine EW.store hs 2 rfl rfl rfl rfl rfl rfl rfl rfl rfl (by simp [Value.oneCell', Value.cells]) rfl (.inr rfl) ?_ | refine EW.store hs 3 rfl rfl rfl rfl rfl rfl rfl rfl rfl (by simp [Value.oneCell', Value.cells]) rfl (.inr rfl) ?_ | refine EW.store hs 4 rfl rfl rfl rfl rfl rfl rfl rfl rfl (by simp [Value.oneCell', Value.cells]) rfl (.inr rfl) ?_ | refine EW.store hs 5 rfl rfl rfl rfl rfl rfl rfl rfl rfl (by simp [Value.oneCell', Value.cells]) rfl (.inr rfl) ?_ | refine EW.store hs 6 rfl rfl rfl rfl rfl rfl rfl rfl rfl (by simp [Value.oneCell', Value.cells]) rfl (.inr rfl) ?_
                clear hs; intro w hs; dsimp only [List.set, setAt] at hs
                refine EW.done ?_
                refine NW.meet ((b76, b78, b80)) (by repeat (first | exact trivial | (refine ⟨rfl, ?_⟩))) ?_
                first | exact hs.pick [6, 2, 1, 0, 3, 4, 7] (by decide) | exact hs.pick [6, 2, 0, 1, 3, 4, 7] (by decide) | exact hs.pick [6, 1, 2, 0, 3, 4, 7] (by decide) | exact hs.pick [6, 1, 0, 2, 3, 4, 7] (by decide) | exact hs.pick [6, 0, 1, 2, 3, 4, 7] (by decide) | exact hs.pick [6, 0, 2, 1, 3, 4, 7] (by decide)
            · refine EWT.leaf ?_
              refine EW.makeN elI 0 rfl rfl rfl hs rfl rfl rfl rfl rfl rfl rfl (by show 8 * nodes.length ≤ 281474976710656; omega) (by simp only [maxLen]; omega) ?_
              clear hs; intro b78 w hs
              refine EW.makeN elI 0 rfl rfl rfl hs rfl rfl rfl rfl rfl rfl rfl (by show 8 * nodes.length ≤ 281474976710656; omega) (by simp only [maxLen]; omega) ?_
              clear hs; intro b76 w hs
              refine EW.nilCheck rfl rfl rfl rfl rfl rfl ?_
              first | refine EW.fieldAddr rfl rfl rfl rfl rfl rfl ?_ | refine EW.fieldAddrA rfl rfl rfl rfl rfl rfl ?_
              first | refine EW.store hs 0 rfl rfl rfl rfl rfl rfl rfl rfl rfl (by simp [Value.oneCell', Value.cells]) rfl (.inr rfl) ?_ | refine EW.store hs 1 rfl rfl rfl rfl rfl rfl rfl rfl rfl (by simp [Value.oneCell', Value.cells]) rfl (.inr rfl) ?_ | refine EW.store hs 2 rfl rfl rfl rfl rfl rfl rfl rfl rfl (by simp [Value.oneCell', Value.cells]) rfl (.inr rfl) ?_ | refine EW.store hs 3 rfl rfl rfl rfl rfl rfl rfl rfl rfl (by simp [Value.oneCell', Value.cells]) rfl (.inr rfl) ?_ | refine EW.store hs 4 rfl rfl rfl rfl rfl rfl rfl rfl rfl (by simp [Value.oneCell', Value.cells]) rfl (.inr rfl) ?_ | refine EW.store hs 5 rfl rfl rfl rfl rfl rfl rfl rfl rfl (by simp [Value.oneCell', Value.cells]) rfl (.inr rfl) ?_ | refine EW.store hs 6 rfl rfl rfl rfl rfl rfl rfl rfl rfl (by simp [Value.oneCell', Value.cells]) rfl (.inr rfl) ?_
              clear hs; intro w hs; dsimp only [List.set, setAt] at hs
              refine EW.nilCheck rfl rfl rfl rfl rfl rfl ?_
              first | refine EW.fieldAddr rfl rfl rfl rfl rfl rfl ?_ | refine EW.fieldAddrA rfl rfl rfl rfl rfl rfl ?_
              first | refine EW.store hs 0 rfl rfl rfl rfl rfl rfl rfl rfl rfl (by simp [Value.oneCell', Value.cells]) rfl (.inr rfl) ?_ | refine EW.store hs 1 rfl rfl rfl rfl rfl rfl rfl rfl rfl (by simp [Value.oneCell', Value.cells]) rfl (.inr rfl) ?_ | refine EW.store hs 2 rfl rfl rfl rfl rfl rfl rfl rfl rfl (by simp [Value.oneCell', Value.cells]) rfl (.inr rfl) ?_ | refine EW.store hs 3 rfl rfl rfl rfl rfl rfl rfl rfl rfl (by simp [Value.oneCell', Value.cells]) rfl (.inr rfl) ?_ | refine EW.store hs 4 rfl rfl rfl rfl rfl rfl rfl rfl rfl (by simp [Value.oneCell', Value.cells]) rfl (.inr rfl) ?_ | refine EW.store hs 5 rfl rfl rfl rfl rfl rfl rfl rfl rfl (by simp [Value.oneCell', Value.cells]) rfl (.inr rfl) ?_ | refine EW.store hs 6 rfl rfl rfl rfl rfl rfl rfl rfl rfl (by simp [Value.oneCell', Value.cells]) rfl (.inr rfl) ?_
              clear hs; intro w hs; dsimp only [List.set, setAt] at hs
              refine EW.nilCheck rfl rfl rfl rfl rfl rfl ?_
              first | refine EW.fieldAddr rfl rfl rfl rfl rfl rfl ?_ | refine EW.fieldAddrA rfl rfl rfl rfl rfl rfl ?_
              first | refine EW.store hs 0 rfl rfl rfl rfl rfl rfl rfl rfl rfl (by simp [Value.oneCell', Value.cells]) rfl (.inr rfl) ?_ | refine EW.store hs 1 rfl rfl rfl rfl rfl rfl rfl rfl rfl (by simp [Value.oneCell', Value.cells]) rfl (.inr rfl) ?_ | refine EW.store hs 2 rfl rfl rfl rfl rfl rfl rfl rfl rfl (by simp [Value.oneCell', Value.cells]) rfl (.inr rfl) ?_ | refine EW.store hs 3 rfl rfl rfl rfl rfl rfl rfl rfl rfl (by simp [Value.oneCell', Value.cells]) rfl (.inr rfl) ?_ | refine EW.store hs 4 rfl rfl rfl rfl rfl rfl rfl rfl rfl (by simp [Value.oneCell', Value.cells]) rfl (.inr rfl) ?_ | refine EW.store hs 5 rfl rfl rfl rfl rfl rfl rfl rfl rfl (by simp [Value.oneCell', Value.cells]) rfl (.inr rfl) ?_ | refine EW.store hs 6 rfl rfl rfl rfl rfl rfl rfl rfl rfl (by simp [Value.oneCell', Value.cells]) rfl (.inr rfl) ?_
              clear hs; intro w hs; dsimp only [List.set, setAt] at hs
              refine EW.done ?_
              refine NW.meet ((b76, b78, b80)) (by repeat (first | exact trivial | (refine ⟨rfl, ?_⟩))) ?_
              first | exact hs.pick [6, 2, 1, 0, 3, 4, 7] (by decide) | exact hs.pick [6, 2, 0, 1, 3, 4, 7] (by decide) | exact hs.pick [6, 1, 2, 0, 3, 4, 7] (by decide) | exact hs.pick [6, 1, 0, 2, 3, 4, 7] (by decide) | exact hs.pick [6, 0, 1, 2, 3, 4, 7] (by decide) | exact hs.pick [6, 0, 2, 1, 3, 4, 7] (by decide)
      · skip
        rintro ⟨n1, n2, n3⟩ w hs
        refine KW.seq ?_
        refine CW.region (S := noS) [(0, .q), (1, .q)] rfl ?_
        refine EW.move rfl rfl rfl rfl rfl rfl ?_
        refine EW.assign rfl rfl rfl rfl rfl rfl ?_
        refine EW.done ?_
        refine NW.seq ?_
        replace hs := (((hs.nil elI).nil elP).rowsNil elL).pick [3, 4, 5, 2, 6, 1, 0, 7, 8, 9] (by decide)
        refine KW.ret1 rfl rfl ?_
        refine ⟨_, rfl, hs.keep, ?_⟩
        exact ⟨b16, ⟨.slice A14 nodes.length c14, .slice Av (outs.map (fun (p : SV × List Int) => p.1)).length cv, .slice (some ⟨n1, 0, none⟩) nodes.length nodes.length, .slice (some ⟨n2, 0, none⟩) nodes.length nodes.length, .slice none 0 0, .slice (some ⟨n3, 0, none⟩) nodes.length nodes.length, .slice none 0 0⟩, A14, c14, Av, cv, outs, rfl, rfl, by simp, houts, hs⟩
end Go.Cw.Tryz
set_option linter.unusedVariables false
set_option linter.unusedSimpArgs false
namespace Go.Cw
def fnI (n : Nat) (f : Nat → Nat) : List Int := (List.range n).map fun u => ((f u : Nat) : Int)
theorem fnI_len (n : Nat) (f : Nat → Nat) : (fnI n f).length = n := by simp [fnI]
theorem fnI_get {n : Nat} (f : Nat → Nat) {u : Nat} (h : u < n) : (fnI n f)[u]? = some ((f u : Nat) : Int) := by simp [fnI, h]
theorem range_set {α : Type} (n : Nat) (f : Nat → α) (u : Nat) (x : α) : ((List.range n).map f).set u x = (List.range n).map fun v => if v = u then x else f v := by
  apply List.ext_getElem?
  intro j
  by_cases hj : j < n
  · by_cases hu : u = j
    · subst hu; simp [hj]
    · rw [List.getElem?_set_ne hu]; simp [hj, Ne.symm hu]
  · rw [List.getElem?_eq_none (by simp; omega), List.getElem?_eq_none (by simp; omega)]
theorem fnI_set (n : Nat) (f : Nat → Nat) (u x : Nat) : (fnI n f).set u ((x : Nat) : Int) = fnI n (upd f u x) := by
  unfold fnI; rw [range_set]
  refine List.map_congr_left fun v _ => ?_
  unfold upd; split <;> rfl
def indI (n : Nat) (l : List Nat) : List Int := (List.range n).map fun u => if u ∈ l then 1 else 0
theorem indI_len (n : Nat) (l : List Nat) : (indI n l).length = n := by simp [indI]
theorem indI_get {n : Nat} (l : List Nat) {u : Nat} (h : u < n) : (indI n l)[u]? = some (if u ∈ l then 1 else 0) := by simp [indI, h]
theorem indI_snoc (n : Nat) (l : List Nat) (u : Nat) : (indI n l).set u 1 = indI n (l ++ [u]) := by
  unfold indI; rw [range_set]
  refine List.map_congr_left fun v _ => ?_
  by_cases h : v = u <;> simp [h]
theorem zeroAt_range (n : Nat) : ∀ (q : List Nat) (f : Nat → Int), zeroAt ((List.range n).map f) q = (List.range n).map fun u => if u ∈ q then 0 else f u
  | [], f => by simp [zeroAt]
  | p :: r, f => by
    show zeroAt (((List.range n).map f).set p 0) r = _
    rw [range_set, zeroAt_range n r]
    refine List.map_congr_left fun v _ => ?_
    by_cases h1 : v ∈ r <;> by_cases h2 : v = p <;> simp [h1, h2]
/-- How many are not met. -/
def TJ.left (n : Nat) (t : TJ) : Nat := ((List.range n).filter fun u => decide (t.num u = 0)).length
theorem left_meet {n : Nat} {t : TJ} {x : Nat} (hx : t.num x = 0) (hn : x < n) : (t.meet x).left n + 1 = t.left n := by
  have gen : ∀ (l : List Nat), l.Nodup → ((l.filter fun u => decide ((t.meet x).num u = 0)).length + if x ∈ l then 1 else 0) = (l.filter fun u => decide (t.num u = 0)).length := by
    intro l
    induction l with
    | nil => intro _; rfl
    | cons y r ih =>
      intro hnd
      obtain ⟨h1, h2⟩ := List.nodup_cons.1 hnd
      have ih := ih h2
      by_cases hy : y = x
      · subst hy
        have e1 : (t.meet y).num y = t.met + 1 := upd_at _ _ _
        rw [if_neg h1, Nat.add_zero] at ih
        rw [List.filter_cons_of_neg (by simp [e1]), List.filter_cons_of_pos (by simp [hx]), if_pos (by simp), ih]; rfl
      · have e1 : (t.meet x).num y = t.num y := upd_ne _ _ hy
        have e2 : (x ∈ y :: r) ↔ x ∈ r := by simp [Ne.symm hy]
        by_cases hz : t.num y = 0
        · rw [List.filter_cons_of_pos (by simp [e1, hz]), List.filter_cons_of_pos (by simp [hz]), List.length_cons, List.length_cons, ← ih]
          simp only [e2]; omega
        · rw [List.filter_cons_of_neg (by simp [e1, hz]), List.filter_cons_of_neg (by simp [hz]), ← ih]
          simp only [e2]
  have := gen (List.range n) List.nodup_range
  rw [if_pos (by simpa using hn)] at this
  exact this
theorem left_lower (n : Nat) (t : TJ) (u x : Nat) : (t.lower u x).left n = t.left n := rfl
theorem left_close (n : Nat) (t : TJ) (p q : List Nat) : (t.close p q).left n = t.left n := rfl
def wsum (out : Nat → List Nat) (way : Way) : Nat := (way.map fun p => (out p.1).length - p.2 + 1).sum
theorem wsum_snoc (out : Nat → List Nat) (W : Way) (v k : Nat) : wsum out (W ++ [(v, k)]) = wsum out W + ((out v).length - k + 1) := by simp [wsum]
def tmu (n : Nat) (out : Nat → List Nat) (t : TJ) (way : Way) : Nat := t.left n * 100002 + wsum out way
theorem TInv.opn_len {n : Nat} {out : Nat → List Nat} {t : TJ} {way : Way} (h : TInv n out t way) : t.opn.length ≤ n := by
  have h1 : t.opn.Nodup := h.opsort.imp fun {a b} hab e => by rw [e] at hab; omega
  have := nodup_sub_len t.opn (List.range n) h1 (fun a ha => by simpa using h.lt a (h.opnum a ha))
  simpa using this
theorem TInv.way_len {n : Nat} {out : Nat → List Nat} {t : TJ} {way : Way} (h : TInv n out t way) : way.length ≤ n := by
  have h1 : (grey way).Nodup := h.wsort.imp fun {a b} hab e => by rw [e] at hab; omega
  have := nodup_sub_len (grey way) (List.range n) h1 (fun a ha => by simpa using h.lt a (h.opnum a (h.gopen a ha)))
  simpa [grey] using this
theorem TInv.parts_len {n : Nat} {out : Nat → List Nat} {t : TJ} {way : Way} (h : TInv n out t way) : t.parts.length ≤ n := by
  have h1 : (t.parts.map fun p => p.headD 0).Nodup := by
    unfold List.Nodup
    rw [List.pairwise_map]
    refine h.apart.imp_of_mem fun {p q} hp hq hpq e => ?_
    have hh : ∀ p ∈ t.parts, p.headD 0 ∈ p := fun p hp => by
      have := (h.scc p hp).1
      cases p with
      | nil => exact absurd rfl this
      | cons a r => simp
    exact hpq _ (hh p hp) (e ▸ hh q hq)
  have := nodup_sub_len _ (List.range n) h1 (fun a ha => by
    obtain ⟨p, hp, rfl⟩ := List.mem_map.1 ha
    have hne := (h.scc p hp).1
    cases p with
    | nil => exact absurd rfl hne
    | cons a r => simpa using h.lt a (h.cl _ hp a (by simp)).1)
  simpa using this
end Go.Cw
namespace Go.Cw.Tryz
open Go.Proofs Go.Cw Go.Shelf
attribute [local irreducible] Go.Addr.add
structure WIs (n : Nat) (nodes : List Lab) (s : WS) (t : TJ) : Prop where
  num : s.num = fnI n t.num
  low : s.low = fnI n t.low
  opn : s.opn = ints t.opn
  inn : s.inn = indI n t.opn
  met : s.met = t.met
  parts : s.parts.map (·.2) = t.parts.map (labsAt nodes)
theorem WIs.meet {n : Nat} {nodes : List Lab} {s : WS} {t : TJ} (h : WIs n nodes s t) (x : Nat) : WIs n nodes (s.meet x) (t.meet x) := by
  refine ⟨?_, ?_, ?_, ?_, ?_, h.parts⟩
  · show s.num.set x _ = _; rw [h.num, h.met, fnI_set]; rfl
  · show s.low.set x _ = _; rw [h.low, h.met, fnI_set]; rfl
  · show s.opn ++ [_] = _; rw [h.opn]; simp [ints, TJ.meet]
  · show s.inn.set x 1 = _; rw [h.inn, indI_snoc]; rfl
  · show s.met + 1 = _; rw [h.met]; rfl
theorem sortN_sorted (l : List Nat) : (sortN l).Pairwise fun a b => a ≤ b := by
  have := List.pairwise_mergeSort (le := fun x y => decide (x ≤ y)) (fun a b c h1 h2 => by simp at *; omega) (fun a b => by simp; omega) l
  exact this.imp fun h => by simpa using h
theorem sortN_perm (l : List Nat) : (sortN l).Perm l := List.mergeSort_perm _ _
theorem WIs.close {n : Nat} {nodes : List Lab} {s : WS} {t : TJ} (h : WIs n nodes s t) {pre suf : List Nat} (hop : t.opn = pre ++ suf) (hnd : t.opn.Nodup) (sv : SV) : WIs n nodes (s.close nodes pre suf sv) (t.close pre (sortN suf)) := by
  refine ⟨h.num, h.low, rfl, ?_, h.met, ?_⟩
  · show zeroAt s.inn (sortN suf) = _
    rw [h.inn, indI, zeroAt_range]
    refine List.map_congr_left fun u _ => ?_
    rw [hop] at hnd
    have hd := (List.nodup_append.1 hnd).2.2
    have h1 : u ∈ sortN suf ↔ u ∈ suf := (sortN_perm suf).mem_iff
    rw [hop]
    by_cases h2 : u ∈ suf
    · rw [if_pos (h1.2 h2)]
      show (0 : Int) = if u ∈ pre then 1 else 0
      rw [if_neg (fun h3 => hd u h3 u h2 rfl)]
    · rw [if_neg (fun h3 => h2 (h1.1 h3))]
      show (if u ∈ pre ++ suf then (1 : Int) else 0) = if u ∈ pre then 1 else 0
      simp [h2]
  · show (s.parts ++ [_]).map _ = (t.parts ++ [_]).map _
    rw [List.map_append, List.map_append, h.parts]; rfl
theorem WIs.lower {n : Nat} {nodes : List Lab} {s : WS} {t : TJ} (h : WIs n nodes s t) (u x : Nat) : WIs n nodes { s with low := s.low.set u ((min (t.low u) x : Nat) : Int) } (t.lower u x) := by
  refine ⟨h.num, ?_, h.opn, h.inn, h.met, h.parts⟩
  show s.low.set u _ = _
  rw [h.low, fnI_set]; rfl

/-- The graph by places, which nobody writes. -/
structure GrA (w : World) (S : Nat → Prop) (An Av : Option Addr) (nodes : List Lab) (outs : List (SV × List Int)) : Prop where
  n : SlA elL w An nodes
  na : ∀ ad, An = some ad → ¬ S ad.block
  o : SlA elO w Av (outs.map (·.1))
  oa : ∀ ad, Av = some ad → ¬ S ad.block
  r : ∀ p ∈ outs, SlA elI w p.1.1 p.2 ∧ p.1.2.1 = p.2.length
  ra : ∀ p ∈ outs, ∀ ad, p.1.1 = some ad → ¬ S ad.block
theorem GrA.keep {w w' : World} {S : Nat → Prop} {An Av : Option Addr} {nodes : List Lab} {outs : List (SV × List Int)} (h : GrA w S An Av nodes outs) (hk : Keep S w w') : GrA w' S An Av nodes outs :=
  ⟨h.n.keep hk h.na, h.na, h.o.keep hk h.oa, h.oa, fun p hp => ⟨(h.r p hp).1.keep hk (h.ra p hp), (h.r p hp).2⟩, h.ra⟩

def encW (p : Nat × Nat) : Value := .agg #[.int .i64 ((p.1 : Nat) : Int), .int .i64 ((p.2 : Nat) : Int)]
/-- Nodes on the way, and how many edges of each were taken. -/
def elW : El Tryz.prog (Nat × Nat) := {
  ty := 80
  size := 2
  bytes := 16
  enc := encW
  zero := .agg #[.int .i64 0, .int .i64 0]
  info := by kernel_rfl
  zsize := rfl
  pos := by decide
  posb := by decide
  cells := fun _ => rfl
  one := fun x u hu => by
    simp only [Value.cells, encW, List.mem_cons, List.not_mem_nil, or_false] at hu
    rcases hu with rfl | rfl <;> rfl
  ld := fun w p x h => LD.many (cs := [.int .i64 ((x.1 : Nat) : Int), .int .i64 ((x.2 : Nat) : Int)]) rfl h }
theorem build80 (a : Int) : ∀ w, (Instr.build 80 [(0, .int .i64 a)].toArray).run Tryz.prog w = .ok (.agg #[.int .i64 a, .int .i64 0]) w := fun w => by kernel_rfl

theorem own_block {w0 w : World} {S0 : Nat → Prop} {H : List Res} (hs : St w0 S0 w H) {b : Nat} (hlt : b < w0.heap.size) (hb : ¬ S0 b) (k : Nat) : ¬ fpU (H.take k) b := fun ⟨R, hR, hfp⟩ => by
  rcases hs.own R (List.mem_of_mem_take hR) b hfp with h | h
  · omega
  · exact hb h
theorem sl_ldk {α : Type} {E : El Tryz.prog α} {w : World} {ad : Addr} {xs : List α} (h : SlA E w (some ad) xs) {k : Nat} {x : α} (hk : xs[k]? = some x) : LDP Tryz.prog w E.ty (ad.add (((k : Nat) : Int).toNat * E.size)) (E.enc x) := by
  obtain ⟨a, ha, _, hl⟩ := h.at_ (i := k) (List.getElem?_eq_some_iff.1 hk).1
  injection ha with ha; subst ha
  exact hl k x hk
theorem way_ld {w : World} {ad : Addr} {way : Way} (h : SlA elW w (some ad) way) {j : Nat} {p : Nat × Nat} (hj : way[j]? = some p) :
    LDP Tryz.prog w 3 ((ad.add (((j : Nat) : Int).toNat * 2)).add 0) (.int .i64 ((p.1 : Nat) : Int)) ∧ LDP Tryz.prog w 3 ((ad.add (((j : Nat) : Int).toNat * 2)).add 1) (.int .i64 ((p.2 : Nat) : Int)) := by
  refine ⟨h.at_part (E' := elI) hj 0 ((p.1 : Nat) : Int) (fun i u hu => ?_) rfl, h.at_part (E' := elI) hj 1 ((p.2 : Nat) : Int) (fun i u hu => ?_) rfl⟩
  · cases i with
    | zero => exact hu
    | succ i => simp [elI, Value.cells] at hu
  · cases i with
    | zero => exact hu
    | succ i => simp [elI, Value.cells] at hu
theorem snoc_ne {α : Type} (l : List α) (a : α) : l ++ [a] ≠ [] := by simp
theorem minI (a b : Nat) : (if ((b : Nat) : Int) < ((a : Nat) : Int) then ((b : Nat) : Int) else ((a : Nat) : Int)) = ((min a b : Nat) : Int) := by
  split <;> omega
def FromPost (w0 : World) (b n : Nat) (out : Nat → List Nat) (nodes : List Lab) (v : WV) (t : TJ) (x0 : Nat) (H' : List Res) : Prop :=
  ∃ v' s' t', H' = wkR b v' s' ∧ v'.vN = v.vN ∧ v'.vO = v.vO ∧ WIs n nodes s' t' ∧ TInv n out t' [] ∧ t'.met + t'.left n = n ∧ (∀ u, 0 < t.num u ∨ u = x0 → 0 < t'.num u)
theorem from_spec (w0 : World) (b n : Nat) (v : WV) (s : WS) (t : TJ) (x0 : Nat) (out : Nat → List Nat) (An Av : Option Addr) (cn cv : Nat) (nodes : List Lab) (outs : List (SV × List Int))
    (hs : St w0 (fpU (wkR b v s)) w0 (wkR b v s)) (hvN : v.vN = .slice An nodes.length cn) (hvO : v.vO = .slice Av outs.length cv) (hG : GrA w0 (fpU (wkR b v s)) An Av nodes outs)
    (hnn : nodes.length = n) (hon : outs.length = n) (hn : n ≤ 100000) (hout : ∀ u, u < n → ∃ sv, outs[u]? = some (sv, ints (out u))) (hot : ∀ u, u < n → ∀ y ∈ out u, y < n) (hod : ∀ u, u < n → (out u).length ≤ 100000)
    (hW : WIs n nodes s t) (hI : TInv n out t []) (hbal : t.met + t.left n = n) (hx0 : x0 < n) (hnum : t.num x0 = 0) :
    T3 Tryz.prog 30 [.pointer (some ⟨b, 0, none⟩), .int .i64 (x0 : Int)] w0 (wkR b v s) fun r w' H' => FromPost w0 b n out nodes v t x0 H' := by
  refine KW.enterT3 (n := 170) Tryz.func30 rfl rfl rfl ?_
  have hop0 : t.opn = [] := by
    have := hI.whead
    simpa [grey] using this
  have hmeet0 : TInv n out (t.meet x0) ([] ++ [(x0, 0)]) := hI.meet hnum hx0 (.inl rfl) (fun _ => hop0)
  have hGk : ∀ w, Keep (fpU (wkR b v s)) w0 w → GrA w (fpU (wkR b v s)) An Av nodes outs := fun w hk => hG.keep hk
  obtain ⟨S0, hS0⟩ : ∃ S0, S0 = fpU (wkR b v s) := ⟨_, rfl⟩
  rw [← hS0] at hs hGk ⊢
  have hnl : nodes ≠ [] := by intro h; rw [h] at hnn; simp at hnn; omega
  obtain ⟨an, hAn, hanlt⟩ := hG.n.some_ hnl
  subst hAn
  have hanS : ¬ S0 an.block := by rw [hS0]; exact hG.na an rfl
  refine KW.scopeJ (l := 0) (ι := WV × WS × TJ × Way × Value) (fun i => tmu n out i.2.2.1 i.2.2.2.1) (fun i => [(0, .pointer (some ⟨b, 0, none⟩)), (4, i.2.2.2.2)]) (fun i w => i.2.2.2.1 ≠ [] ∧ i.1.vN = .slice (some an) nodes.length cn ∧ i.1.vO = .slice Av outs.length cv ∧ WIs n nodes i.2.1 i.2.2.1 ∧ TInv n out i.2.2.1 i.2.2.2.1 ∧ i.2.2.1.met + i.2.2.1.left n = n ∧ (∀ u, 0 < t.num u ∨ u = x0 → 0 < i.2.2.1.num u) ∧ St w0 S0 w (wkR b i.1 i.2.1 ++ [own elW i.2.2.2.2 i.2.2.2.1])) rfl ?_ ?_
  · skip
    rintro ⟨v1, s1, t1, way, vw⟩ w ⟨hne, hv1, hv2, hW1, hI1, hbal1, hmono, hs1⟩
    dsimp only at hne hv1 hv2 hW1 hI1 hbal1 hmono hs1
    obtain ⟨W, x, k, rfl⟩ : ∃ W x k, way = W ++ [(x, k)] := ⟨way.dropLast, (way.getLast hne).1, (way.getLast hne).2, (List.dropLast_concat_getLast hne).symm⟩
    have hxo := hI1.vopen
    have hxn : x < n := hI1.lt x (hI1.opnum x hxo)
    obtain ⟨⟨Ar, lr, cr⟩, hrow⟩ := hout x hxn
    have hkl : k ≤ (out x).length := hI1.wtaken (x, k) (by simp)
    have hol := hI1.opn_len
    have hwl := hI1.way_len
    have hpl := hI1.parts_len
    rw [List.length_append, List.length_singleton] at hwl
    have hdeg := hod x hxn
    have hspl : s1.parts.length ≤ 100000 := by
      have := congrArg List.length hW1.parts
      simp only [List.length_map] at this
      omega
    obtain ⟨vN, vO, vnum, vlow, vopn, vinn, vparts⟩ := v1
    obtain ⟨num, low, opn, inn, met, parts⟩ := s1
    dsimp only at hv1 hv2 hspl
    subst hv1 hv2
    have hE1 : wkR b ⟨.slice (some an) nodes.length cn, .slice Av outs.length cv, vnum, vlow, vopn, vinn, vparts⟩ ⟨num, low, opn, inn, met, parts⟩ = [pt b (.cells #[.slice (some an) nodes.length cn, .slice Av outs.length cv, vnum, vlow, vopn, vinn, .int .i64 (met : Int), vparts] 62), own elI vnum num, own elI vlow low, own elI vopn opn, own elI vinn inn, own elP vparts (parts.map (·.1)), rows elL parts] := rfl
    have hWn : num = fnI n t1.num := hW1.num
    have hWl : low = fnI n t1.low := hW1.low
    have hWi : inn = indI n t1.opn := hW1.inn
    have hWo : opn = ints t1.opn := hW1.opn
    have hWm : met = t1.met := hW1.met
    subst hWn hWl hWi hWo hWm
    have hle1 := fnI_len n t1.num
    have hle2 := fnI_len n t1.low
    have hle3 := indI_len n t1.opn
    have hs := hs1
    rw [hE1] at hs
    simp only [List.cons_append, List.nil_append] at hs
    obtain ⟨Anum, cnum, rfl, hsn, _⟩ := own_sl (hs.res 1 rfl)
    obtain ⟨Alow, clow, rfl, hsl, _⟩ := own_sl (hs.res 2 rfl)
    obtain ⟨Ainn, cinn, rfl, hsi, _⟩ := own_sl (hs.res 4 rfl)
    obtain ⟨Aw, cw, rfl, hsw, hwc, hwm, _⟩ := own_sl (hs.res 7 rfl)
    obtain ⟨anum, rfl, _, hln⟩ := hsn.at_ (i := x) (by rw [fnI_len]; exact hxn)
    obtain ⟨alow, rfl, _, hll⟩ := hsl.at_ (i := x) (by rw [fnI_len]; exact hxn)
    obtain ⟨ainn, rfl, _, hli⟩ := hsi.at_ (i := x) (by rw [indI_len]; exact hxn)
    have hwlen : (W ++ [(x, k)]).length = W.length + 1 := by simp
    rw [hwlen] at hs ⊢
    obtain ⟨aw, rfl, _, hlw⟩ := hsw.at_ (i := W.length) (by rw [hwlen]; omega)
    have hGw := hGk w hs.keep
    obtain ⟨ao, rfl, _, hlo⟩ := hGw.o.at_ (i := x) (by rw [List.length_map]; omega)
    obtain ⟨hrsl, hrlen⟩ := hGw.r _ (List.mem_of_getElem? hrow)
    have hra := hG.ra _ (List.mem_of_getElem? hrow)
    dsimp only at hrsl hrlen hra
    have hrl : (ints (out x)).length = (out x).length := by simp [ints]
    rw [hrl] at hrlen
    subst hrlen
    have hlast : (W ++ [(x, k)])[W.length]? = some (x, k) := by simp
    obtain ⟨gx, gk⟩ := way_ld (hs.sl 7 rfl) hlast
    dsimp only at gx gk
    have go : LDP Tryz.prog w 60 (ao.add (((x : Nat) : Int).toNat * 1)) (.slice Ar (out x).length cr) := hlo x (Ar, (out x).length, cr) (by rw [List.getElem?_map, hrow]; rfl)
    refine KW.seq ?_
    refine CW.region (S := noS) [(0, .q), (1, .q), (2, .q), (3, .q), (4, .q), (5, .q)] rfl ?_
    refine EW.move rfl rfl rfl rfl rfl rfl ?_
    refine EW.move rfl rfl rfl rfl rfl rfl ?_
    refine EW.len rfl rfl rfl rfl rfl rfl ?_
    refine EW.bin rfl rfl rfl rfl rfl rfl rfl (BV.sub (c := ((W.length : Nat) : Int)) (by rw [wrap_i64 (by omega) (by omega)]; omega)) ?_
    refine EW.indexAddr rfl rfl rfl rfl rfl rfl rfl (by omega) (by omega) ?_
    refine EW.assign rfl rfl rfl rfl rfl rfl ?_
    refine EW.done ?_
    refine NW.seq ?_
    refine KW.seq ?_
    refine KW.seq ?_
    refine CW.regionD (noS) [(0, .q), (1, .q), (2, .q), (3, .q), (4, .q), (5, .q), (6, .q), (7, .q), (8, .q), (9, .q), (10, .q), (11, .q), (12, .q), (13, .q), (14, .q), (15, .q)] mixed (by kernel_rfl) ?_
    replace hs := hs.drew
    refine EW.move rfl rfl rfl rfl rfl rfl ?_
    refine EW.nilCheck rfl rfl rfl rfl rfl rfl ?_
    first | refine EW.fieldAddr rfl rfl rfl rfl rfl rfl ?_ | refine EW.fieldAddrA rfl rfl rfl rfl rfl rfl ?_
    refine EW.loadP rfl rfl rfl rfl rfl rfl (by first | assumption | (apply LDP.drew; assumption) | exact St.ld1 hs 0 rfl rfl | exact St.ldA hs 0 rfl rfl rfl | exact St.ld1 hs 1 rfl rfl | exact St.ldA hs 1 rfl rfl rfl | exact St.ld1 hs 2 rfl rfl | exact St.ldA hs 2 rfl rfl rfl | exact St.ld1 hs 3 rfl rfl | exact St.ldA hs 3 rfl rfl rfl | exact St.ld1 hs 4 rfl rfl | exact St.ldA hs 4 rfl rfl rfl | exact St.ld1 hs 5 rfl rfl | exact St.ldA hs 5 rfl rfl rfl | exact St.ld1 hs 6 rfl rfl | exact St.ldA hs 6 rfl rfl rfl) (by first | exact .inl rfl | exact .inr (fun h => h)) ?_
    refine EW.move rfl rfl rfl rfl rfl rfl ?_
    refine EW.nilCheck rfl rfl rfl rfl rfl rfl ?_
    first | refine EW.fieldAddr rfl rfl rfl rfl rfl rfl ?_ | refine EW.fieldAddrA rfl rfl rfl rfl rfl rfl ?_
    refine EW.loadP rfl rfl rfl rfl rfl rfl (by first | assumption | (apply LDP.drew; assumption) | exact St.ld1 hs 0 rfl rfl | exact St.ldA hs 0 rfl rfl rfl | exact St.ld1 hs 1 rfl rfl | exact St.ldA hs 1 rfl rfl rfl | exact St.ld1 hs 2 rfl rfl | exact St.ldA hs 2 rfl rfl rfl | exact St.ld1 hs 3 rfl rfl | exact St.ldA hs 3 rfl rfl rfl | exact St.ld1 hs 4 rfl rfl | exact St.ldA hs 4 rfl rfl rfl | exact St.ld1 hs 5 rfl rfl | exact St.ldA hs 5 rfl rfl rfl | exact St.ld1 hs 6 rfl rfl | exact St.ldA hs 6 rfl rfl rfl) (by first | exact .inl rfl | exact .inr (fun h => h)) ?_
    refine EW.move rfl rfl rfl rfl rfl rfl ?_
    refine EW.nilCheck rfl rfl rfl rfl rfl rfl ?_
    first | refine EW.fieldAddr rfl rfl rfl rfl rfl rfl ?_ | refine EW.fieldAddrA rfl rfl rfl rfl rfl rfl ?_
    refine EW.loadP rfl rfl rfl rfl rfl rfl (by first | assumption | (apply LDP.drew; assumption) | exact St.ld1 hs 0 rfl rfl | exact St.ldA hs 0 rfl rfl rfl | exact St.ld1 hs 1 rfl rfl | exact St.ldA hs 1 rfl rfl rfl | exact St.ld1 hs 2 rfl rfl | exact St.ldA hs 2 rfl rfl rfl | exact St.ld1 hs 3 rfl rfl | exact St.ldA hs 3 rfl rfl rfl | exact St.ld1 hs 4 rfl rfl | exact St.ldA hs 4 rfl rfl rfl | exact St.ld1 hs 5 rfl rfl | exact St.ldA hs 5 rfl rfl rfl | exact St.ld1 hs 6 rfl rfl | exact St.ldA hs 6 rfl rfl rfl) (by first | exact .inl rfl | exact .inr (fun h => h)) ?_
    refine EW.indexAddr rfl rfl rfl rfl rfl rfl rfl (by omega) (by omega) ?_
    refine EW.loadP rfl rfl rfl rfl rfl rfl (by first | assumption | (apply LDP.drew; assumption) | exact St.ld1 hs 0 rfl rfl | exact St.ldA hs 0 rfl rfl rfl | exact St.ld1 hs 1 rfl rfl | exact St.ldA hs 1 rfl rfl rfl | exact St.ld1 hs 2 rfl rfl | exact St.ldA hs 2 rfl rfl rfl | exact St.ld1 hs 3 rfl rfl | exact St.ldA hs 3 rfl rfl rfl | exact St.ld1 hs 4 rfl rfl | exact St.ldA hs 4 rfl rfl rfl | exact St.ld1 hs 5 rfl rfl | exact St.ldA hs 5 rfl rfl rfl | exact St.ld1 hs 6 rfl rfl | exact St.ldA hs 6 rfl rfl rfl) (by first | exact .inl rfl | exact .inr (fun h => h)) ?_
    refine EW.len rfl rfl rfl rfl rfl rfl ?_
    refine EW.bin rfl rfl rfl rfl rfl rfl rfl BV.lss ?_
    refine EW.done ?_
    refine NW.seq ?_
    by_cases hk' : k < (out x).length
    · refine CW.cond_t rfl (by simpa using hk') ?_
      obtain ⟨y, hy⟩ : ∃ y, (out x)[k]? = some y := ⟨_, List.getElem?_eq_getElem hk'⟩
      have hyn : y < n := hot x hxn y (List.mem_of_getElem? hy)
      obtain ⟨ar, rfl, _, hlr⟩ := hrsl.at_ (i := k) (by rw [hrl]; exact hk')
      have gr : LDP Tryz.prog w 3 (ar.add (((k : Nat) : Int).toNat * 1)) (.int .i64 ((y : Nat) : Int)) := hlr k _ (by rw [ints, List.getElem?_map, hy]; rfl)
      refine KW.seq ?_
      refine CW.regionD (noS) [(0, .q), (1, .q), (2, .q), (3, .q), (4, .q), (5, .q), (6, .q), (7, .q), (8, .q), (9, .q), (10, .q), (11, .q), (12, .q), (13, .q), (14, .q), (15, .q), (16, .q)] mixed (by kernel_rfl) ?_
      replace hs := hs.drew
      refine EW.move rfl rfl rfl rfl rfl rfl ?_
      refine EW.nilCheck rfl rfl rfl rfl rfl rfl ?_
      first | refine EW.fieldAddr rfl rfl rfl rfl rfl rfl ?_ | refine EW.fieldAddrA rfl rfl rfl rfl rfl rfl ?_
      refine EW.loadP rfl rfl rfl rfl rfl rfl (by first | assumption | (apply LDP.drew; assumption) | exact St.ld1 hs 0 rfl rfl | exact St.ldA hs 0 rfl rfl rfl | exact St.ld1 hs 1 rfl rfl | exact St.ldA hs 1 rfl rfl rfl | exact St.ld1 hs 2 rfl rfl | exact St.ldA hs 2 rfl rfl rfl | exact St.ld1 hs 3 rfl rfl | exact St.ldA hs 3 rfl rfl rfl | exact St.ld1 hs 4 rfl rfl | exact St.ldA hs 4 rfl rfl rfl | exact St.ld1 hs 5 rfl rfl | exact St.ldA hs 5 rfl rfl rfl | exact St.ld1 hs 6 rfl rfl | exact St.ldA hs 6 rfl rfl rfl) (by first | exact .inl rfl | exact .inr (fun h => h)) ?_
      refine EW.move rfl rfl rfl rfl rfl rfl ?_
      refine EW.nilCheck rfl rfl rfl rfl rfl rfl ?_
      first | refine EW.fieldAddr rfl rfl rfl rfl rfl rfl ?_ | refine EW.fieldAddrA rfl rfl rfl rfl rfl rfl ?_
      refine EW.loadP rfl rfl rfl rfl rfl rfl (by first | assumption | (apply LDP.drew; assumption) | exact St.ld1 hs 0 rfl rfl | exact St.ldA hs 0 rfl rfl rfl | exact St.ld1 hs 1 rfl rfl | exact St.ldA hs 1 rfl rfl rfl | exact St.ld1 hs 2 rfl rfl | exact St.ldA hs 2 rfl rfl rfl | exact St.ld1 hs 3 rfl rfl | exact St.ldA hs 3 rfl rfl rfl | exact St.ld1 hs 4 rfl rfl | exact St.ldA hs 4 rfl rfl rfl | exact St.ld1 hs 5 rfl rfl | exact St.ldA hs 5 rfl rfl rfl | exact St.ld1 hs 6 rfl rfl | exact St.ldA hs 6 rfl rfl rfl) (by first | exact .inl rfl | exact .inr (fun h => h)) ?_
      refine EW.indexAddr rfl rfl rfl rfl rfl rfl rfl (by omega) (by omega) ?_
      refine EW.loadP rfl rfl rfl rfl rfl rfl (by first | assumption | (apply LDP.drew; assumption) | exact St.ld1 hs 0 rfl rfl | exact St.ldA hs 0 rfl rfl rfl | exact St.ld1 hs 1 rfl rfl | exact St.ldA hs 1 rfl rfl rfl | exact St.ld1 hs 2 rfl rfl | exact St.ldA hs 2 rfl rfl rfl | exact St.ld1 hs 3 rfl rfl | exact St.ldA hs 3 rfl rfl rfl | exact St.ld1 hs 4 rfl rfl | exact St.ldA hs 4 rfl rfl rfl | exact St.ld1 hs 5 rfl rfl | exact St.ldA hs 5 rfl rfl rfl | exact St.ld1 hs 6 rfl rfl | exact St.ldA hs 6 rfl rfl rfl) (by first | exact .inl rfl | exact .inr (fun h => h)) ?_
      refine EW.move rfl rfl rfl rfl rfl rfl ?_
      refine EW.nilCheck rfl rfl rfl rfl rfl rfl ?_
      first | refine EW.fieldAddr rfl rfl rfl rfl rfl rfl ?_ | refine EW.fieldAddrA rfl rfl rfl rfl rfl rfl ?_
      refine EW.loadP rfl rfl rfl rfl rfl rfl (by first | assumption | (apply LDP.drew; assumption) | exact St.ld1 hs 0 rfl rfl | exact St.ldA hs 0 rfl rfl rfl | exact St.ld1 hs 1 rfl rfl | exact St.ldA hs 1 rfl rfl rfl | exact St.ld1 hs 2 rfl rfl | exact St.ldA hs 2 rfl rfl rfl | exact St.ld1 hs 3 rfl rfl | exact St.ldA hs 3 rfl rfl rfl | exact St.ld1 hs 4 rfl rfl | exact St.ldA hs 4 rfl rfl rfl | exact St.ld1 hs 5 rfl rfl | exact St.ldA hs 5 rfl rfl rfl | exact St.ld1 hs 6 rfl rfl | exact St.ldA hs 6 rfl rfl rfl) (by first | exact .inl rfl | exact .inr (fun h => h)) ?_
      refine EW.indexAddr rfl rfl rfl rfl rfl rfl rfl (by omega) (by omega) ?_
      refine EW.loadP rfl rfl rfl rfl rfl rfl (by first | assumption | (apply LDP.drew; assumption) | exact St.ld1 hs 0 rfl rfl | exact St.ldA hs 0 rfl rfl rfl | exact St.ld1 hs 1 rfl rfl | exact St.ldA hs 1 rfl rfl rfl | exact St.ld1 hs 2 rfl rfl | exact St.ldA hs 2 rfl rfl rfl | exact St.ld1 hs 3 rfl rfl | exact St.ldA hs 3 rfl rfl rfl | exact St.ld1 hs 4 rfl rfl | exact St.ldA hs 4 rfl rfl rfl | exact St.ld1 hs 5 rfl rfl | exact St.ldA hs 5 rfl rfl rfl | exact St.ld1 hs 6 rfl rfl | exact St.ldA hs 6 rfl rfl rfl) (by first | exact .inl rfl | exact .inr (fun h => h)) ?_
      refine EW.assign rfl rfl rfl rfl rfl rfl ?_
      refine EW.done ?_
      refine NW.seq ?_
      refine KW.seq ?_
      refine CW.region (S := noS) [(0, .q), (1, .q), (2, .q), (3, .q), (4, .q), (5, .q), (6, .q), (7, .l)] rfl ?_
      refine EW.move rfl rfl rfl rfl rfl rfl ?_
      refine EW.nilCheck rfl rfl rfl rfl rfl rfl ?_
      first | refine EW.fieldAddr rfl rfl rfl rfl rfl rfl ?_ | refine EW.fieldAddrA rfl rfl rfl rfl rfl rfl ?_
      refine EW.loadP rfl rfl rfl rfl rfl rfl (by first | assumption | (apply LDP.drew; assumption) | exact St.ld1 hs 0 rfl rfl | exact St.ldA hs 0 rfl rfl rfl | exact St.ld1 hs 1 rfl rfl | exact St.ldA hs 1 rfl rfl rfl | exact St.ld1 hs 2 rfl rfl | exact St.ldA hs 2 rfl rfl rfl | exact St.ld1 hs 3 rfl rfl | exact St.ldA hs 3 rfl rfl rfl | exact St.ld1 hs 4 rfl rfl | exact St.ldA hs 4 rfl rfl rfl | exact St.ld1 hs 5 rfl rfl | exact St.ldA hs 5 rfl rfl rfl | exact St.ld1 hs 6 rfl rfl | exact St.ldA hs 6 rfl rfl rfl) (by first | exact .inl rfl | exact .inr (fun h => h)) ?_
      refine EW.bin rfl rfl rfl rfl rfl rfl rfl (BV.add (c := ((k + 1 : Nat) : Int)) (by rw [wrap_i64 (by omega) (by omega)]; omega)) ?_
      refine EW.nilCheck rfl rfl rfl rfl rfl rfl ?_
      first | refine EW.fieldAddr rfl rfl rfl rfl rfl rfl ?_ | refine EW.fieldAddrA rfl rfl rfl rfl rfl rfl ?_
      refine EW.storeElF elW (j := W.length) (y := (x, k)) (z := (x, k + 1)) hs 7 hlast rfl rfl rfl rfl rfl rfl rfl rfl rfl rfl (.inl rfl) ?_
      clear hs; intro w hs; dsimp only [List.set] at hs
      have hset : (W ++ [(x, k)]).set W.length (x, k + 1) = W ++ [(x, k + 1)] := by simp
      rw [hset] at hs
      have hlast2 : (W ++ [(x, k + 1)])[W.length]? = some (x, k + 1) := by simp
      obtain ⟨gx2, _⟩ := way_ld (hs.sl 7 rfl) hlast2
      dsimp only at gx2
      have gn : LDP Tryz.prog w 3 (anum.add (((y : Nat) : Int).toNat * 1)) (.int .i64 ((t1.num y : Nat) : Int)) := sl_ldk (hs.sl 1 rfl) (fnI_get _ hyn)
      have gi : LDP Tryz.prog w 3 (ainn.add (((y : Nat) : Int).toNat * 1)) (.int .i64 (if y ∈ t1.opn then 1 else 0)) := sl_ldk (hs.sl 4 rfl) (indI_get _ hyn)
      have gl : LDP Tryz.prog w 3 (alow.add (((x : Nat) : Int).toNat * 1)) (.int .i64 ((t1.low x : Nat) : Int)) := sl_ldk (hs.sl 2 rfl) (fnI_get _ hxn)
      refine EW.done ?_
      refine NW.seq ?_
      refine KW.seq ?_
      refine KW.block ?_
      refine KW.seq ?_
      refine CW.region (S := noS) [(0, .q), (1, .q), (2, .q), (3, .q), (4, .q), (5, .q), (6, .q), (7, .q), (8, .q)] rfl ?_
      refine EW.move rfl rfl rfl rfl rfl rfl ?_
      refine EW.nilCheck rfl rfl rfl rfl rfl rfl ?_
      first | refine EW.fieldAddr rfl rfl rfl rfl rfl rfl ?_ | refine EW.fieldAddrA rfl rfl rfl rfl rfl rfl ?_
      refine EW.loadP rfl rfl rfl rfl rfl rfl (by first | assumption | (apply LDP.drew; assumption) | exact St.ld1 hs 0 rfl rfl | exact St.ldA hs 0 rfl rfl rfl | exact St.ld1 hs 1 rfl rfl | exact St.ldA hs 1 rfl rfl rfl | exact St.ld1 hs 2 rfl rfl | exact St.ldA hs 2 rfl rfl rfl | exact St.ld1 hs 3 rfl rfl | exact St.ldA hs 3 rfl rfl rfl | exact St.ld1 hs 4 rfl rfl | exact St.ldA hs 4 rfl rfl rfl | exact St.ld1 hs 5 rfl rfl | exact St.ldA hs 5 rfl rfl rfl | exact St.ld1 hs 6 rfl rfl | exact St.ldA hs 6 rfl rfl rfl) (by first | exact .inl rfl | exact .inr (fun h => h)) ?_
      refine EW.move rfl rfl rfl rfl rfl rfl ?_
      refine EW.indexAddr rfl rfl rfl rfl rfl rfl rfl (by omega) (by omega) ?_
      refine EW.loadP rfl rfl rfl rfl rfl rfl (by first | assumption | (apply LDP.drew; assumption) | exact St.ld1 hs 0 rfl rfl | exact St.ldA hs 0 rfl rfl rfl | exact St.ld1 hs 1 rfl rfl | exact St.ldA hs 1 rfl rfl rfl | exact St.ld1 hs 2 rfl rfl | exact St.ldA hs 2 rfl rfl rfl | exact St.ld1 hs 3 rfl rfl | exact St.ldA hs 3 rfl rfl rfl | exact St.ld1 hs 4 rfl rfl | exact St.ldA hs 4 rfl rfl rfl | exact St.ld1 hs 5 rfl rfl | exact St.ldA hs 5 rfl rfl rfl | exact St.ld1 hs 6 rfl rfl | exact St.ldA hs 6 rfl rfl rfl) (by first | exact .inl rfl | exact .inr (fun h => h)) ?_
      refine EW.bin rfl rfl rfl rfl rfl rfl rfl BV.eqi ?_
      refine EW.assign rfl rfl rfl rfl rfl rfl ?_
      refine EW.done ?_
      refine NW.seq ?_
      by_cases hy0 : t1.num y = 0
      · refine CW.cond_t rfl (by simpa using hy0) ?_
        have hlm : t1.left n = (t1.meet y).left n + 1 := (left_meet hy0 hyn).symm
        have hmu : tmu n out (t1.meet y) (W ++ [(x, k + 1)] ++ [(y, 0)]) < tmu n out t1 (W ++ [(x, k)]) := by
          have := hod y hyn
          unfold tmu
          rw [wsum_snoc, wsum_snoc, wsum_snoc, hlm]
          omega
        refine KW.seq ?_
        refine CW.region (S := noS) [(0, .q), (1, .q), (2, .l)] rfl ?_
        refine EW.move rfl rfl rfl rfl rfl rfl ?_
        refine EW.move rfl rfl rfl rfl rfl rfl ?_
        refine EW.callT3 hs 7 (meet_spec _ b ⟨.slice (some an) nodes.length cn, .slice (some ao) outs.length cv, .slice (some anum) (fnI n t1.num).length cnum, .slice (some alow) (fnI n t1.low).length clow, vopn, .slice (some ainn) (indI n t1.opn).length cinn, vparts⟩ ⟨fnI n t1.num, fnI n t1.low, ints t1.opn, indI n t1.opn, t1.met, parts⟩ y (hs.sub 7) (by show y < (fnI n t1.num).length; rw [fnI_len]; exact hyn) (by show y < (fnI n t1.low).length; rw [fnI_len]; exact hyn) (by show y < (indI n t1.opn).length; rw [indI_len]; exact hyn) (by show t1.met ≤ 1000000; omega) (by show (ints t1.opn).length ≤ 1000000; simp [ints]; omega)) rfl rfl rfl rfl rfl Tryz.func42 bd42 nm42 rfl (by first | exact .inl rfl | exact .inr (fun b h => h) | exact .inr (fun b h => ‹∀ b, _ → _› b h)) ?_
        clear hs; intro v70 w H'70 hs hst70 hp70
        obtain ⟨vo70, rfl⟩ := hp70
        clear hst70
        try simp only [List.cons_append, List.nil_append, List.drop_succ_cons, List.drop_zero] at hs
        simp only [wkR, WS.meet, List.cons_append, List.nil_append, List.drop_succ_cons, List.drop_zero] at hs
        have hw2 : (W ++ [(x, k + 1)]).length = W.length + 1 := by simp
        refine EW.done ?_
        refine NW.seq ?_
        refine CW.region (S := noS) [(0, .q), (1, .q), (2, .q), (3, .l), (4, .l), (5, .q)] rfl ?_
        refine EW.move rfl rfl rfl rfl rfl rfl ?_
        refine EW.move rfl rfl rfl rfl rfl rfl ?_
        refine EW.build (α := Unit) (pv := [(0, .int .i64 ((y : Nat) : Int))]) rfl rfl rfl rfl rfl rfl rfl (build80 _) ?_
        refine EW.lit1 elW ((y, 0)) hs rfl rfl rfl rfl rfl rfl rfl ?_
        clear hs; intro b74 w hs
        refine EW.append1 elW 8 0 hs rfl rfl (by show ((W ++ [(x, k + 1)]).length + 1) * 16 ≤ 140737488355328; rw [hw2]; omega) (.inl rfl) rfl rfl rfl rfl rfl rfl rfl ?_
        clear hs; intro v75 w hs; dsimp only [List.set] at hs; replace hs := hs.tail
        refine EW.assign rfl rfl rfl rfl rfl rfl ?_
        refine EW.done ?_
        refine NW.blk ?_
        refine NW.seq ?_
        refine KW.goto ?_
        refine GW.seq ?_
        refine GW.jump ((⟨.slice (some an) nodes.length cn, .slice (some ao) outs.length cv, .slice (some anum) (fnI n t1.num).length cnum, .slice (some alow) (fnI n t1.low).length clow, vo70, .slice (some ainn) (indI n t1.opn).length cinn, vparts⟩, WS.meet ⟨fnI n t1.num, fnI n t1.low, ints t1.opn, indI n t1.opn, t1.met, parts⟩ y, t1.meet y, W ++ [(x, k + 1)] ++ [(y, 0)], v75)) (by first | assumption | (dsimp only; omega) | omega | (simp; omega)) (by repeat (first | exact trivial | (refine ⟨by first | rfl | (congr 2; omega) | (simp; done) | (congr 1; simp; done), ?_⟩))) ?_
        try dsimp only
        refine ⟨snoc_ne _ _, rfl, rfl, hW1.meet y, hI1.edge_new hy hy0 hyn, ?_, fun u hu => ?_, hs⟩
        · show t1.met + 1 + (t1.meet y).left n = n; omega
        · have := hmono u hu
          show 0 < upd t1.num y (t1.met + 1) u
          unfold upd; split <;> omega
      · refine CW.cond_f rfl (by simpa using hy0) ?_
        refine KW.seq ?_
        refine CW.region (S := noS) [(0, .q), (1, .q), (2, .q), (3, .q), (4, .q), (5, .q), (6, .q), (7, .q), (8, .q)] rfl ?_
        refine EW.move rfl rfl rfl rfl rfl rfl ?_
        refine EW.nilCheck rfl rfl rfl rfl rfl rfl ?_
        first | refine EW.fieldAddr rfl rfl rfl rfl rfl rfl ?_ | refine EW.fieldAddrA rfl rfl rfl rfl rfl rfl ?_
        refine EW.loadP rfl rfl rfl rfl rfl rfl (by first | assumption | (apply LDP.drew; assumption) | exact St.ld1 hs 0 rfl rfl | exact St.ldA hs 0 rfl rfl rfl | exact St.ld1 hs 1 rfl rfl | exact St.ldA hs 1 rfl rfl rfl | exact St.ld1 hs 2 rfl rfl | exact St.ldA hs 2 rfl rfl rfl | exact St.ld1 hs 3 rfl rfl | exact St.ldA hs 3 rfl rfl rfl | exact St.ld1 hs 4 rfl rfl | exact St.ldA hs 4 rfl rfl rfl | exact St.ld1 hs 5 rfl rfl | exact St.ldA hs 5 rfl rfl rfl | exact St.ld1 hs 6 rfl rfl | exact St.ldA hs 6 rfl rfl rfl) (by first | exact .inl rfl | exact .inr (fun h => h)) ?_
        refine EW.move rfl rfl rfl rfl rfl rfl ?_
        refine EW.indexAddr rfl rfl rfl rfl rfl rfl rfl (by omega) (by omega) ?_
        refine EW.loadP rfl rfl rfl rfl rfl rfl (by first | assumption | (apply LDP.drew; assumption) | exact St.ld1 hs 0 rfl rfl | exact St.ldA hs 0 rfl rfl rfl | exact St.ld1 hs 1 rfl rfl | exact St.ldA hs 1 rfl rfl rfl | exact St.ld1 hs 2 rfl rfl | exact St.ldA hs 2 rfl rfl rfl | exact St.ld1 hs 3 rfl rfl | exact St.ldA hs 3 rfl rfl rfl | exact St.ld1 hs 4 rfl rfl | exact St.ldA hs 4 rfl rfl rfl | exact St.ld1 hs 5 rfl rfl | exact St.ldA hs 5 rfl rfl rfl | exact St.ld1 hs 6 rfl rfl | exact St.ldA hs 6 rfl rfl rfl) (by first | exact .inl rfl | exact .inr (fun h => h)) ?_
        refine EW.bin rfl rfl rfl rfl rfl rfl rfl BV.eqi ?_
        refine EW.assign rfl rfl rfl rfl rfl rfl ?_
        refine EW.done ?_
        refine NW.seq ?_
        by_cases hyo : y ∈ t1.opn
        · refine CW.cond_t rfl (by simp [hyo]) ?_
          have hmu : tmu n out (t1.lower x (t1.num y)) (W ++ [(x, k + 1)]) < tmu n out t1 (W ++ [(x, k)]) := by
            unfold tmu
            rw [wsum_snoc, wsum_snoc, left_lower]
            omega
          refine CW.regionD (noS) [(0, .q), (1, .q), (2, .q), (3, .q), (4, .q), (5, .q), (6, .q), (7, .q), (8, .q), (9, .q), (10, .q), (11, .q), (12, .q), (13, .q), (14, .q), (15, .q), (16, .q), (17, .q), (18, .q), (19, .q), (20, .q), (21, .q), (22, .q), (23, .q), (24, .q), (25, .q), (26, .q), (27, .b)] mixed (by kernel_rfl) ?_
          replace hs := hs.drew
          refine EW.move rfl rfl rfl rfl rfl rfl ?_
          refine EW.nilCheck rfl rfl rfl rfl rfl rfl ?_
          first | refine EW.fieldAddr rfl rfl rfl rfl rfl rfl ?_ | refine EW.fieldAddrA rfl rfl rfl rfl rfl rfl ?_
          refine EW.loadP rfl rfl rfl rfl rfl rfl (by first | assumption | (apply LDP.drew; assumption) | exact St.ld1 hs 0 rfl rfl | exact St.ldA hs 0 rfl rfl rfl | exact St.ld1 hs 1 rfl rfl | exact St.ldA hs 1 rfl rfl rfl | exact St.ld1 hs 2 rfl rfl | exact St.ldA hs 2 rfl rfl rfl | exact St.ld1 hs 3 rfl rfl | exact St.ldA hs 3 rfl rfl rfl | exact St.ld1 hs 4 rfl rfl | exact St.ldA hs 4 rfl rfl rfl | exact St.ld1 hs 5 rfl rfl | exact St.ldA hs 5 rfl rfl rfl | exact St.ld1 hs 6 rfl rfl | exact St.ldA hs 6 rfl rfl rfl) (by first | exact .inl rfl | exact .inr (fun h => h)) ?_
          refine EW.move rfl rfl rfl rfl rfl rfl ?_
          refine EW.nilCheck rfl rfl rfl rfl rfl rfl ?_
          first | refine EW.fieldAddr rfl rfl rfl rfl rfl rfl ?_ | refine EW.fieldAddrA rfl rfl rfl rfl rfl rfl ?_
          refine EW.loadP rfl rfl rfl rfl rfl rfl (by first | assumption | (apply LDP.drew; assumption) | exact St.ld1 hs 0 rfl rfl | exact St.ldA hs 0 rfl rfl rfl | exact St.ld1 hs 1 rfl rfl | exact St.ldA hs 1 rfl rfl rfl | exact St.ld1 hs 2 rfl rfl | exact St.ldA hs 2 rfl rfl rfl | exact St.ld1 hs 3 rfl rfl | exact St.ldA hs 3 rfl rfl rfl | exact St.ld1 hs 4 rfl rfl | exact St.ldA hs 4 rfl rfl rfl | exact St.ld1 hs 5 rfl rfl | exact St.ldA hs 5 rfl rfl rfl | exact St.ld1 hs 6 rfl rfl | exact St.ldA hs 6 rfl rfl rfl) (by first | exact .inl rfl | exact .inr (fun h => h)) ?_
          refine EW.move rfl rfl rfl rfl rfl rfl ?_
          refine EW.nilCheck rfl rfl rfl rfl rfl rfl ?_
          first | refine EW.fieldAddr rfl rfl rfl rfl rfl rfl ?_ | refine EW.fieldAddrA rfl rfl rfl rfl rfl rfl ?_
          refine EW.loadP rfl rfl rfl rfl rfl rfl (by first | assumption | (apply LDP.drew; assumption) | exact St.ld1 hs 0 rfl rfl | exact St.ldA hs 0 rfl rfl rfl | exact St.ld1 hs 1 rfl rfl | exact St.ldA hs 1 rfl rfl rfl | exact St.ld1 hs 2 rfl rfl | exact St.ldA hs 2 rfl rfl rfl | exact St.ld1 hs 3 rfl rfl | exact St.ldA hs 3 rfl rfl rfl | exact St.ld1 hs 4 rfl rfl | exact St.ldA hs 4 rfl rfl rfl | exact St.ld1 hs 5 rfl rfl | exact St.ldA hs 5 rfl rfl rfl | exact St.ld1 hs 6 rfl rfl | exact St.ldA hs 6 rfl rfl rfl) (by first | exact .inl rfl | exact .inr (fun h => h)) ?_
          refine EW.move rfl rfl rfl rfl rfl rfl ?_
          refine EW.nilCheck rfl rfl rfl rfl rfl rfl ?_
          first | refine EW.fieldAddr rfl rfl rfl rfl rfl rfl ?_ | refine EW.fieldAddrA rfl rfl rfl rfl rfl rfl ?_
          refine EW.loadP rfl rfl rfl rfl rfl rfl (by first | assumption | (apply LDP.drew; assumption) | exact St.ld1 hs 0 rfl rfl | exact St.ldA hs 0 rfl rfl rfl | exact St.ld1 hs 1 rfl rfl | exact St.ldA hs 1 rfl rfl rfl | exact St.ld1 hs 2 rfl rfl | exact St.ldA hs 2 rfl rfl rfl | exact St.ld1 hs 3 rfl rfl | exact St.ldA hs 3 rfl rfl rfl | exact St.ld1 hs 4 rfl rfl | exact St.ldA hs 4 rfl rfl rfl | exact St.ld1 hs 5 rfl rfl | exact St.ldA hs 5 rfl rfl rfl | exact St.ld1 hs 6 rfl rfl | exact St.ldA hs 6 rfl rfl rfl) (by first | exact .inl rfl | exact .inr (fun h => h)) ?_
          refine EW.indexAddr rfl rfl rfl rfl rfl rfl rfl (by omega) (by omega) ?_
          refine EW.loadP rfl rfl rfl rfl rfl rfl (by first | assumption | (apply LDP.drew; assumption) | exact St.ld1 hs 0 rfl rfl | exact St.ldA hs 0 rfl rfl rfl | exact St.ld1 hs 1 rfl rfl | exact St.ldA hs 1 rfl rfl rfl | exact St.ld1 hs 2 rfl rfl | exact St.ldA hs 2 rfl rfl rfl | exact St.ld1 hs 3 rfl rfl | exact St.ldA hs 3 rfl rfl rfl | exact St.ld1 hs 4 rfl rfl | exact St.ldA hs 4 rfl rfl rfl | exact St.ld1 hs 5 rfl rfl | exact St.ldA hs 5 rfl rfl rfl | exact St.ld1 hs 6 rfl rfl | exact St.ldA hs 6 rfl rfl rfl) (by first | exact .inl rfl | exact .inr (fun h => h)) ?_
          refine EW.move rfl rfl rfl rfl rfl rfl ?_
          refine EW.nilCheck rfl rfl rfl rfl rfl rfl ?_
          first | refine EW.fieldAddr rfl rfl rfl rfl rfl rfl ?_ | refine EW.fieldAddrA rfl rfl rfl rfl rfl rfl ?_
          refine EW.loadP rfl rfl rfl rfl rfl rfl (by first | assumption | (apply LDP.drew; assumption) | exact St.ld1 hs 0 rfl rfl | exact St.ldA hs 0 rfl rfl rfl | exact St.ld1 hs 1 rfl rfl | exact St.ldA hs 1 rfl rfl rfl | exact St.ld1 hs 2 rfl rfl | exact St.ldA hs 2 rfl rfl rfl | exact St.ld1 hs 3 rfl rfl | exact St.ldA hs 3 rfl rfl rfl | exact St.ld1 hs 4 rfl rfl | exact St.ldA hs 4 rfl rfl rfl | exact St.ld1 hs 5 rfl rfl | exact St.ldA hs 5 rfl rfl rfl | exact St.ld1 hs 6 rfl rfl | exact St.ldA hs 6 rfl rfl rfl) (by first | exact .inl rfl | exact .inr (fun h => h)) ?_
          refine EW.move rfl rfl rfl rfl rfl rfl ?_
          refine EW.indexAddr rfl rfl rfl rfl rfl rfl rfl (by omega) (by omega) ?_
          refine EW.loadP rfl rfl rfl rfl rfl rfl (by first | assumption | (apply LDP.drew; assumption) | exact St.ld1 hs 0 rfl rfl | exact St.ldA hs 0 rfl rfl rfl | exact St.ld1 hs 1 rfl rfl | exact St.ldA hs 1 rfl rfl rfl | exact St.ld1 hs 2 rfl rfl | exact St.ldA hs 2 rfl rfl rfl | exact St.ld1 hs 3 rfl rfl | exact St.ldA hs 3 rfl rfl rfl | exact St.ld1 hs 4 rfl rfl | exact St.ldA hs 4 rfl rfl rfl | exact St.ld1 hs 5 rfl rfl | exact St.ldA hs 5 rfl rfl rfl | exact St.ld1 hs 6 rfl rfl | exact St.ldA hs 6 rfl rfl rfl) (by first | exact .inl rfl | exact .inr (fun h => h)) ?_
          refine EW.min rfl rfl rfl rfl rfl rfl rfl ?_
          rw [minI]
          refine EW.indexAddr rfl rfl rfl rfl rfl rfl rfl (by omega) (by omega) ?_
          refine EW.storeElB elI (j := x) (z := ((min (t1.low x) (t1.num y) : Nat) : Int)) hs 2 (by rw [fnI_len]; exact hxn) rfl rfl rfl rfl rfl rfl rfl ?_
          clear hs; intro w hs; dsimp only [List.set] at hs
          refine EW.done ?_
          refine NW.blk ?_
          refine NW.seq ?_
          refine KW.goto ?_
          refine GW.seq ?_
          refine GW.jump ((⟨.slice (some an) nodes.length cn, .slice (some ao) outs.length cv, .slice (some anum) (fnI n t1.num).length cnum, .slice (some alow) (fnI n t1.low).length clow, vopn, .slice (some ainn) (indI n t1.opn).length cinn, vparts⟩, ⟨fnI n t1.num, (fnI n t1.low).set x ((min (t1.low x) (t1.num y) : Nat) : Int), ints t1.opn, indI n t1.opn, t1.met, parts⟩, t1.lower x (t1.num y), W ++ [(x, k + 1)], .slice (some aw) (W.length + 1) cw)) (by first | assumption | (dsimp only; omega) | omega | (simp; omega)) (by repeat (first | exact trivial | (refine ⟨by first | rfl | (congr 2; omega) | (simp; done) | (congr 1; simp; done), ?_⟩))) ?_
          try dsimp only
          exact ⟨snoc_ne _ _, rfl, rfl, hW1.lower x (t1.num y), hI1.edge_low hy (by omega) hyo, hbal1, hmono, hs⟩
        · refine CW.cond_f rfl (by simp [hyo]) ?_
          have hmu : tmu n out t1 (W ++ [(x, k + 1)]) < tmu n out t1 (W ++ [(x, k)]) := by
            unfold tmu
            rw [wsum_snoc, wsum_snoc]
            omega
          refine KW.skip ?_
          refine NW.blk ?_
          refine NW.seq ?_
          refine KW.goto ?_
          refine GW.seq ?_
          refine GW.jump ((⟨.slice (some an) nodes.length cn, .slice (some ao) outs.length cv, .slice (some anum) (fnI n t1.num).length cnum, .slice (some alow) (fnI n t1.low).length clow, vopn, .slice (some ainn) (indI n t1.opn).length cinn, vparts⟩, ⟨fnI n t1.num, fnI n t1.low, ints t1.opn, indI n t1.opn, t1.met, parts⟩, t1, W ++ [(x, k + 1)], .slice (some aw) (W.length + 1) cw)) (by first | assumption | (dsimp only; omega) | omega | (simp; omega)) (by repeat (first | exact trivial | (refine ⟨by first | rfl | (congr 2; omega) | (simp; done) | (congr 1; simp; done), ?_⟩))) ?_
          try dsimp only
          exact ⟨snoc_ne _ _, rfl, rfl, hW1, hI1.edge_closed hy (by omega) hyo, hbal1, hmono, hs⟩
    · refine CW.cond_f rfl (by simpa using hk') ?_
      have hke : k = (out x).length := by omega
      have gn : LDP Tryz.prog w 3 (anum.add (((x : Nat) : Int).toNat * 1)) (.int .i64 ((t1.num x : Nat) : Int)) := sl_ldk (hs.sl 1 rfl) (fnI_get _ hxn)
      have gl : LDP Tryz.prog w 3 (alow.add (((x : Nat) : Int).toNat * 1)) (.int .i64 ((t1.low x : Nat) : Int)) := sl_ldk (hs.sl 2 rfl) (fnI_get _ hxn)
      refine KW.skip ?_
      refine NW.seq ?_
      refine KW.seq ?_
      refine CW.region (S := noS) [(0, .q), (1, .q), (2, .q), (3, .q), (4, .q)] rfl ?_
      refine EW.move rfl rfl rfl rfl rfl rfl ?_
      refine EW.nilCheck rfl rfl rfl rfl rfl rfl ?_
      first | refine EW.fieldAddr rfl rfl rfl rfl rfl rfl ?_ | refine EW.fieldAddrA rfl rfl rfl rfl rfl rfl ?_
      refine EW.loadP rfl rfl rfl rfl rfl rfl (by first | assumption | (apply LDP.drew; assumption) | exact St.ld1 hs 0 rfl rfl | exact St.ldA hs 0 rfl rfl rfl | exact St.ld1 hs 1 rfl rfl | exact St.ldA hs 1 rfl rfl rfl | exact St.ld1 hs 2 rfl rfl | exact St.ldA hs 2 rfl rfl rfl | exact St.ld1 hs 3 rfl rfl | exact St.ldA hs 3 rfl rfl rfl | exact St.ld1 hs 4 rfl rfl | exact St.ldA hs 4 rfl rfl rfl | exact St.ld1 hs 5 rfl rfl | exact St.ldA hs 5 rfl rfl rfl | exact St.ld1 hs 6 rfl rfl | exact St.ldA hs 6 rfl rfl rfl) (by first | exact .inl rfl | exact .inr (fun h => h)) ?_
      refine EW.assign rfl rfl rfl rfl rfl rfl ?_
      refine EW.done ?_
      refine NW.seq ?_
      refine KW.cut (ι := WV × WS × TJ) (fun _ => [(0, .pointer (some ⟨b, 0, none⟩)), (4, .slice (some aw) (W.length + 1) cw), (7, .int .i64 ((x : Nat) : Int))]) (fun i w => i.1.vN = .slice (some an) nodes.length cn ∧ i.1.vO = .slice (some ao) outs.length cv ∧ WIs n nodes i.2.1 i.2.2 ∧ i.2.2.met + i.2.2.left n = n ∧ i.2.2.left n = t1.left n ∧ i.2.2.num = t1.num ∧ i.2.2.low = t1.low ∧ (W = [] → TInv n out i.2.2 []) ∧ (∀ W' u j, W = W' ++ [(u, j)] → TInv n out (i.2.2.lower u (t1.low x)) W) ∧ St w0 S0 w (wkR b i.1 i.2.1 ++ [own elW (.slice (some aw) (W.length + 1) cw) (W ++ [(x, k)])])) ?_ ?_
      · skip
        refine KW.seq ?_
        refine CW.regionD (noS) [(0, .q), (1, .q), (2, .q), (3, .q), (4, .q), (5, .q), (6, .q), (7, .q), (8, .q), (9, .q), (10, .q), (11, .q), (12, .q), (13, .q), (14, .q)] mixed (by kernel_rfl) ?_
        replace hs := hs.drew
        refine EW.move rfl rfl rfl rfl rfl rfl ?_
        refine EW.nilCheck rfl rfl rfl rfl rfl rfl ?_
        first | refine EW.fieldAddr rfl rfl rfl rfl rfl rfl ?_ | refine EW.fieldAddrA rfl rfl rfl rfl rfl rfl ?_
        refine EW.loadP rfl rfl rfl rfl rfl rfl (by first | assumption | (apply LDP.drew; assumption) | exact St.ld1 hs 0 rfl rfl | exact St.ldA hs 0 rfl rfl rfl | exact St.ld1 hs 1 rfl rfl | exact St.ldA hs 1 rfl rfl rfl | exact St.ld1 hs 2 rfl rfl | exact St.ldA hs 2 rfl rfl rfl | exact St.ld1 hs 3 rfl rfl | exact St.ldA hs 3 rfl rfl rfl | exact St.ld1 hs 4 rfl rfl | exact St.ldA hs 4 rfl rfl rfl | exact St.ld1 hs 5 rfl rfl | exact St.ldA hs 5 rfl rfl rfl | exact St.ld1 hs 6 rfl rfl | exact St.ldA hs 6 rfl rfl rfl) (by first | exact .inl rfl | exact .inr (fun h => h)) ?_
        refine EW.move rfl rfl rfl rfl rfl rfl ?_
        refine EW.indexAddr rfl rfl rfl rfl rfl rfl rfl (by omega) (by omega) ?_
        refine EW.loadP rfl rfl rfl rfl rfl rfl (by first | assumption | (apply LDP.drew; assumption) | exact St.ld1 hs 0 rfl rfl | exact St.ldA hs 0 rfl rfl rfl | exact St.ld1 hs 1 rfl rfl | exact St.ldA hs 1 rfl rfl rfl | exact St.ld1 hs 2 rfl rfl | exact St.ldA hs 2 rfl rfl rfl | exact St.ld1 hs 3 rfl rfl | exact St.ldA hs 3 rfl rfl rfl | exact St.ld1 hs 4 rfl rfl | exact St.ldA hs 4 rfl rfl rfl | exact St.ld1 hs 5 rfl rfl | exact St.ldA hs 5 rfl rfl rfl | exact St.ld1 hs 6 rfl rfl | exact St.ldA hs 6 rfl rfl rfl) (by first | exact .inl rfl | exact .inr (fun h => h)) ?_
        refine EW.move rfl rfl rfl rfl rfl rfl ?_
        refine EW.nilCheck rfl rfl rfl rfl rfl rfl ?_
        first | refine EW.fieldAddr rfl rfl rfl rfl rfl rfl ?_ | refine EW.fieldAddrA rfl rfl rfl rfl rfl rfl ?_
        refine EW.loadP rfl rfl rfl rfl rfl rfl (by first | assumption | (apply LDP.drew; assumption) | exact St.ld1 hs 0 rfl rfl | exact St.ldA hs 0 rfl rfl rfl | exact St.ld1 hs 1 rfl rfl | exact St.ldA hs 1 rfl rfl rfl | exact St.ld1 hs 2 rfl rfl | exact St.ldA hs 2 rfl rfl rfl | exact St.ld1 hs 3 rfl rfl | exact St.ldA hs 3 rfl rfl rfl | exact St.ld1 hs 4 rfl rfl | exact St.ldA hs 4 rfl rfl rfl | exact St.ld1 hs 5 rfl rfl | exact St.ldA hs 5 rfl rfl rfl | exact St.ld1 hs 6 rfl rfl | exact St.ldA hs 6 rfl rfl rfl) (by first | exact .inl rfl | exact .inr (fun h => h)) ?_
        refine EW.move rfl rfl rfl rfl rfl rfl ?_
        refine EW.indexAddr rfl rfl rfl rfl rfl rfl rfl (by omega) (by omega) ?_
        refine EW.loadP rfl rfl rfl rfl rfl rfl (by first | assumption | (apply LDP.drew; assumption) | exact St.ld1 hs 0 rfl rfl | exact St.ldA hs 0 rfl rfl rfl | exact St.ld1 hs 1 rfl rfl | exact St.ldA hs 1 rfl rfl rfl | exact St.ld1 hs 2 rfl rfl | exact St.ldA hs 2 rfl rfl rfl | exact St.ld1 hs 3 rfl rfl | exact St.ldA hs 3 rfl rfl rfl | exact St.ld1 hs 4 rfl rfl | exact St.ldA hs 4 rfl rfl rfl | exact St.ld1 hs 5 rfl rfl | exact St.ldA hs 5 rfl rfl rfl | exact St.ld1 hs 6 rfl rfl | exact St.ldA hs 6 rfl rfl rfl) (by first | exact .inl rfl | exact .inr (fun h => h)) ?_
        refine EW.bin rfl rfl rfl rfl rfl rfl rfl BV.eqi ?_
        refine EW.done ?_
        refine NW.seq ?_
        by_cases hlow : t1.low x = t1.num x
        · refine CW.cond_t rfl (by simp [hlow]) ?_
          obtain ⟨pre, suf, hps⟩ := List.append_of_mem hxo
          have hnd : t1.opn.Nodup := hI1.opsort.imp fun {a b} hab e => by rw [e] at hab; omega
          have hnpre : x ∉ pre := fun h => by
            rw [hps] at hnd
            exact (List.nodup_append.1 hnd).2.2 x h x (by simp) rfl
          have hcl := (hI1.close hke hlow hps (sortN_perm (x :: suf)) (sortN_sorted _)).1
          refine CW.region (S := noS) [(0, .q), (1, .q), (2, .l)] rfl ?_
          refine EW.move rfl rfl rfl rfl rfl rfl ?_
          refine EW.move rfl rfl rfl rfl rfl rfl ?_
          refine EW.callT3 hs 7 (close_spec _ b ⟨.slice (some an) nodes.length cn, .slice (some ao) outs.length cv, .slice (some anum) (fnI n t1.num).length cnum, .slice (some alow) (fnI n t1.low).length clow, vopn, .slice (some ainn) (indI n t1.opn).length cinn, vparts⟩ ⟨fnI n t1.num, fnI n t1.low, ints t1.opn, indI n t1.opn, t1.met, parts⟩ x pre suf nodes (some an) cn (hs.sub 7) rfl (hGk _ hs.keep).n (fun ad had => by injection had with had; subst had; exact own_block hs hanlt hanS 7) (by show ints t1.opn = _; rw [hps]) hnpre (fun p hp => by rw [hnn]; exact hI1.lt p (hI1.opnum p (by rw [hps]; exact List.mem_append_right _ hp))) (by show (indI n t1.opn).length = _; rw [indI_len, hnn]) (by rw [← hps]; omega) (by show parts.length ≤ 100000; exact hspl)) rfl rfl rfl rfl rfl Tryz.func43 bd43 nm43 rfl (by first | exact .inl rfl | exact .inr (fun b h => h) | exact .inr (fun b h => ‹∀ b, _ → _› b h)) ?_
          clear hs; intro v133 w H'133 hs hst133 hp133
          obtain ⟨vo133, vp133, sv133, rfl⟩ := hp133
          clear hst133
          try simp only [List.cons_append, List.nil_append, List.drop_succ_cons, List.drop_zero] at hs
          refine EW.done ?_
          refine NW.meet ((⟨.slice (some an) nodes.length cn, .slice (some ao) outs.length cv, .slice (some anum) (fnI n t1.num).length cnum, .slice (some alow) (fnI n t1.low).length clow, vo133, .slice (some ainn) (indI n t1.opn).length cinn, vp133⟩, WS.close ⟨fnI n t1.num, fnI n t1.low, ints t1.opn, indI n t1.opn, t1.met, parts⟩ nodes pre (x :: suf) sv133, t1.close pre (sortN (x :: suf)))) (by repeat (first | exact trivial | (refine ⟨by first | rfl | (congr 2; omega) | (simp; done) | (congr 1; simp; done), ?_⟩))) ?_
          try dsimp only
          refine ⟨rfl, rfl, hW1.close hps hnd sv133, hbal1, rfl, rfl, rfl, fun hW => by rw [hW] at hcl; exact hcl, fun W' u j hW' => ?_, hs⟩
          have hug : u ∈ grey W := by rw [hW']; simp [grey]
          rw [hcl.lower_same hug (by show t1.num u ≤ t1.low x; rw [hlow]; exact Nat.le_of_lt (hI1.top u hug))]
          exact hcl
        · refine CW.cond_f rfl (by simp; omega) ?_
          obtain ⟨W', u, j, hW', hp⟩ := hI1.pop hke hlow
          refine KW.skip ?_
          refine NW.meet ((⟨.slice (some an) nodes.length cn, .slice (some ao) outs.length cv, .slice (some anum) (fnI n t1.num).length cnum, .slice (some alow) (fnI n t1.low).length clow, vopn, .slice (some ainn) (indI n t1.opn).length cinn, vparts⟩, ⟨fnI n t1.num, fnI n t1.low, ints t1.opn, indI n t1.opn, t1.met, parts⟩, t1)) (by repeat (first | exact trivial | (refine ⟨by first | rfl | (congr 2; omega) | (simp; done) | (congr 1; simp; done), ?_⟩))) ?_
          try dsimp only
          refine ⟨rfl, rfl, hW1, hbal1, rfl, rfl, rfl, fun hW => by rw [hW] at hW'; simp at hW', fun W2 u2 j2 h2 => ?_, hs⟩
          have h3 := List.append_inj_right' (hW'.symm.trans h2) rfl
          simp only [List.cons.injEq, Prod.mk.injEq, and_true] at h3
          rw [← h3.1]; exact hp
      · skip
        rintro ⟨v2, s2, t2⟩ w ⟨hv1, hv2, hW2, hbal2, hlf2, hnum2, hlow2, hI2, hI3, hs2⟩
        dsimp only at hv1 hv2 hW2 hbal2 hlf2 hnum2 hlow2 hI2 hI3 hs2
        obtain ⟨vN2, vO2, vnum2, vlow2, vopn2, vinn2, vparts2⟩ := v2
        obtain ⟨num2, low2, opn2, inn2, met2, parts2⟩ := s2
        dsimp only at hv1 hv2
        subst hv1 hv2
        have hl2 : low2 = fnI n t2.low := hW2.low
        subst hl2
        have hE2 : wkR b ⟨.slice (some an) nodes.length cn, .slice (some ao) outs.length cv, vnum2, vlow2, vopn2, vinn2, vparts2⟩ ⟨num2, fnI n t2.low, opn2, inn2, met2, parts2⟩ = [pt b (.cells #[.slice (some an) nodes.length cn, .slice (some ao) outs.length cv, vnum2, vlow2, vopn2, vinn2, .int .i64 (met2 : Int), vparts2] 62), own elI vnum2 num2, own elI vlow2 (fnI n t2.low), own elI vopn2 opn2, own elI vinn2 inn2, own elP vparts2 (parts2.map (·.1)), rows elL parts2] := rfl
        have hle4 := fnI_len n t2.low
        have hs := hs2
        rw [hE2] at hs
        simp only [List.cons_append, List.nil_append] at hs
        obtain ⟨Al2, cl2, rfl, hsl2, _⟩ := own_sl (hs.res 2 rfl)
        obtain ⟨al2, rfl, _⟩ := hsl2.at_ (i := x) (by rw [fnI_len]; exact hxn)
        refine KW.seq ?_
        refine CW.region (S := noS) [(0, .q), (1, .q), (2, .q), (3, .q), (4, .q), (5, .q)] rfl ?_
        refine EW.move rfl rfl rfl rfl rfl rfl ?_
        refine EW.move rfl rfl rfl rfl rfl rfl ?_
        refine EW.len rfl rfl rfl rfl rfl rfl ?_
        refine EW.bin rfl rfl rfl rfl rfl rfl rfl (BV.sub (c := ((W.length : Nat) : Int)) (by rw [wrap_i64 (by omega) (by omega)]; omega)) ?_
        refine EW.sliceSl_hi rfl rfl rfl rfl rfl rfl rfl (by omega) ?_
        replace hs := hs.conv 7 rfl (own_shrink (hs.res 7 rfl) W.length (by rw [hwlen]; omega)) (fun b hb => hb)
        rw [show (W ++ [(x, k)]).take W.length = W from List.take_left' rfl] at hs
        dsimp only [List.set] at hs
        refine EW.assign rfl rfl rfl rfl rfl rfl ?_
        refine EW.done ?_
        refine NW.seq ?_
        refine KW.seq ?_
        refine CW.region (S := noS) [(0, .q), (1, .q), (2, .q)] rfl ?_
        refine EW.move rfl rfl rfl rfl rfl rfl ?_
        refine EW.len rfl rfl rfl rfl rfl rfl ?_
        refine EW.bin rfl rfl rfl rfl rfl rfl rfl BV.gtr ?_
        refine EW.done ?_
        refine NW.seq ?_
        by_cases hW0 : 0 < W.length
        · refine CW.cond_t rfl (by simpa using hW0) ?_
          obtain ⟨W', u, j, rfl⟩ : ∃ W' u j, W = W' ++ [(u, j)] := by
            have hne : W ≠ [] := List.length_pos_iff.1 hW0
            exact ⟨W.dropLast, (W.getLast hne).1, (W.getLast hne).2, (List.dropLast_concat_getLast hne).symm⟩
          have hwl2 : (W' ++ [(u, j)]).length = W'.length + 1 := by simp
          have hI4 := hI3 W' u j rfl
          have hun : u < n := hI1.lt u (hI1.opnum u (hI1.gopen u (by simp [grey])))
          obtain ⟨gu, _⟩ := way_ld (hs.sl 7 rfl) (j := W'.length) (p := (u, j)) (by simp)
          dsimp only at gu
          have gl1 : LDP Tryz.prog w 3 (al2.add (((u : Nat) : Int).toNat * 1)) (.int .i64 ((t2.low u : Nat) : Int)) := sl_ldk (hs.sl 2 rfl) (fnI_get _ hun)
          have gl2 : LDP Tryz.prog w 3 (al2.add (((x : Nat) : Int).toNat * 1)) (.int .i64 ((t2.low x : Nat) : Int)) := sl_ldk (hs.sl 2 rfl) (fnI_get _ hxn)
          have hmu : tmu n out (t2.lower u (t1.low x)) (W' ++ [(u, j)]) < tmu n out t1 (W' ++ [(u, j)] ++ [(x, k)]) := by
            unfold tmu
            rw [left_lower, hlf2, wsum_snoc _ (W' ++ [(u, j)])]
            omega
          refine KW.seq ?_
          refine CW.region (S := noS) [(0, .q), (1, .q), (2, .q), (3, .q), (4, .q), (5, .q), (6, .q), (7, .q)] rfl ?_
          refine EW.move rfl rfl rfl rfl rfl rfl ?_
          refine EW.move rfl rfl rfl rfl rfl rfl ?_
          refine EW.len rfl rfl rfl rfl rfl rfl ?_
          refine EW.bin rfl rfl rfl rfl rfl rfl rfl (BV.sub (c := ((W'.length : Nat) : Int)) (by rw [wrap_i64 (by omega) (by omega)]; omega)) ?_
          refine EW.indexAddr rfl rfl rfl rfl rfl rfl rfl (by omega) (by omega) ?_
          first | refine EW.fieldAddr rfl rfl rfl rfl rfl rfl ?_ | refine EW.fieldAddrA rfl rfl rfl rfl rfl rfl ?_
          refine EW.loadP rfl rfl rfl rfl rfl rfl (by first | assumption | (apply LDP.drew; assumption) | exact St.ld1 hs 0 rfl rfl | exact St.ldA hs 0 rfl rfl rfl | exact St.ld1 hs 1 rfl rfl | exact St.ldA hs 1 rfl rfl rfl | exact St.ld1 hs 2 rfl rfl | exact St.ldA hs 2 rfl rfl rfl | exact St.ld1 hs 3 rfl rfl | exact St.ldA hs 3 rfl rfl rfl | exact St.ld1 hs 4 rfl rfl | exact St.ldA hs 4 rfl rfl rfl | exact St.ld1 hs 5 rfl rfl | exact St.ldA hs 5 rfl rfl rfl | exact St.ld1 hs 6 rfl rfl | exact St.ldA hs 6 rfl rfl rfl) (by first | exact .inl rfl | exact .inr (fun h => h)) ?_
          refine EW.assign rfl rfl rfl rfl rfl rfl ?_
          refine EW.done ?_
          refine NW.seq ?_
          refine KW.seq ?_
          refine CW.regionD (noS) [(0, .q), (1, .q), (2, .q), (3, .q), (4, .q), (5, .q), (6, .q), (7, .q), (8, .q), (9, .q), (10, .q), (11, .q), (12, .q), (13, .q), (14, .q), (15, .q), (16, .q), (17, .q), (18, .q), (19, .q), (20, .q), (21, .b)] mixed (by kernel_rfl) ?_
          replace hs := hs.drew
          refine EW.move rfl rfl rfl rfl rfl rfl ?_
          refine EW.nilCheck rfl rfl rfl rfl rfl rfl ?_
          first | refine EW.fieldAddr rfl rfl rfl rfl rfl rfl ?_ | refine EW.fieldAddrA rfl rfl rfl rfl rfl rfl ?_
          refine EW.loadP rfl rfl rfl rfl rfl rfl (by first | assumption | (apply LDP.drew; assumption) | exact St.ld1 hs 0 rfl rfl | exact St.ldA hs 0 rfl rfl rfl | exact St.ld1 hs 1 rfl rfl | exact St.ldA hs 1 rfl rfl rfl | exact St.ld1 hs 2 rfl rfl | exact St.ldA hs 2 rfl rfl rfl | exact St.ld1 hs 3 rfl rfl | exact St.ldA hs 3 rfl rfl rfl | exact St.ld1 hs 4 rfl rfl | exact St.ldA hs 4 rfl rfl rfl | exact St.ld1 hs 5 rfl rfl | exact St.ldA hs 5 rfl rfl rfl | exact St.ld1 hs 6 rfl rfl | exact St.ldA hs 6 rfl rfl rfl) (by first | exact .inl rfl | exact .inr (fun h => h)) ?_
          refine EW.move rfl rfl rfl rfl rfl rfl ?_
          refine EW.move rfl rfl rfl rfl rfl rfl ?_
          refine EW.nilCheck rfl rfl rfl rfl rfl rfl ?_
          first | refine EW.fieldAddr rfl rfl rfl rfl rfl rfl ?_ | refine EW.fieldAddrA rfl rfl rfl rfl rfl rfl ?_
          refine EW.loadP rfl rfl rfl rfl rfl rfl (by first | assumption | (apply LDP.drew; assumption) | exact St.ld1 hs 0 rfl rfl | exact St.ldA hs 0 rfl rfl rfl | exact St.ld1 hs 1 rfl rfl | exact St.ldA hs 1 rfl rfl rfl | exact St.ld1 hs 2 rfl rfl | exact St.ldA hs 2 rfl rfl rfl | exact St.ld1 hs 3 rfl rfl | exact St.ldA hs 3 rfl rfl rfl | exact St.ld1 hs 4 rfl rfl | exact St.ldA hs 4 rfl rfl rfl | exact St.ld1 hs 5 rfl rfl | exact St.ldA hs 5 rfl rfl rfl | exact St.ld1 hs 6 rfl rfl | exact St.ldA hs 6 rfl rfl rfl) (by first | exact .inl rfl | exact .inr (fun h => h)) ?_
          refine EW.move rfl rfl rfl rfl rfl rfl ?_
          refine EW.indexAddr rfl rfl rfl rfl rfl rfl rfl (by omega) (by omega) ?_
          refine EW.loadP rfl rfl rfl rfl rfl rfl (by first | assumption | (apply LDP.drew; assumption) | exact St.ld1 hs 0 rfl rfl | exact St.ldA hs 0 rfl rfl rfl | exact St.ld1 hs 1 rfl rfl | exact St.ldA hs 1 rfl rfl rfl | exact St.ld1 hs 2 rfl rfl | exact St.ldA hs 2 rfl rfl rfl | exact St.ld1 hs 3 rfl rfl | exact St.ldA hs 3 rfl rfl rfl | exact St.ld1 hs 4 rfl rfl | exact St.ldA hs 4 rfl rfl rfl | exact St.ld1 hs 5 rfl rfl | exact St.ldA hs 5 rfl rfl rfl | exact St.ld1 hs 6 rfl rfl | exact St.ldA hs 6 rfl rfl rfl) (by first | exact .inl rfl | exact .inr (fun h => h)) ?_
          refine EW.move rfl rfl rfl rfl rfl rfl ?_
          refine EW.nilCheck rfl rfl rfl rfl rfl rfl ?_
          first | refine EW.fieldAddr rfl rfl rfl rfl rfl rfl ?_ | refine EW.fieldAddrA rfl rfl rfl rfl rfl rfl ?_
          refine EW.loadP rfl rfl rfl rfl rfl rfl (by first | assumption | (apply LDP.drew; assumption) | exact St.ld1 hs 0 rfl rfl | exact St.ldA hs 0 rfl rfl rfl | exact St.ld1 hs 1 rfl rfl | exact St.ldA hs 1 rfl rfl rfl | exact St.ld1 hs 2 rfl rfl | exact St.ldA hs 2 rfl rfl rfl | exact St.ld1 hs 3 rfl rfl | exact St.ldA hs 3 rfl rfl rfl | exact St.ld1 hs 4 rfl rfl | exact St.ldA hs 4 rfl rfl rfl | exact St.ld1 hs 5 rfl rfl | exact St.ldA hs 5 rfl rfl rfl | exact St.ld1 hs 6 rfl rfl | exact St.ldA hs 6 rfl rfl rfl) (by first | exact .inl rfl | exact .inr (fun h => h)) ?_
          refine EW.move rfl rfl rfl rfl rfl rfl ?_
          refine EW.indexAddr rfl rfl rfl rfl rfl rfl rfl (by omega) (by omega) ?_
          refine EW.loadP rfl rfl rfl rfl rfl rfl (by first | assumption | (apply LDP.drew; assumption) | exact St.ld1 hs 0 rfl rfl | exact St.ldA hs 0 rfl rfl rfl | exact St.ld1 hs 1 rfl rfl | exact St.ldA hs 1 rfl rfl rfl | exact St.ld1 hs 2 rfl rfl | exact St.ldA hs 2 rfl rfl rfl | exact St.ld1 hs 3 rfl rfl | exact St.ldA hs 3 rfl rfl rfl | exact St.ld1 hs 4 rfl rfl | exact St.ldA hs 4 rfl rfl rfl | exact St.ld1 hs 5 rfl rfl | exact St.ldA hs 5 rfl rfl rfl | exact St.ld1 hs 6 rfl rfl | exact St.ldA hs 6 rfl rfl rfl) (by first | exact .inl rfl | exact .inr (fun h => h)) ?_
          refine EW.min rfl rfl rfl rfl rfl rfl rfl ?_
          rw [minI, hlow2]
          refine EW.indexAddr rfl rfl rfl rfl rfl rfl rfl (by omega) (by omega) ?_
          refine EW.storeElB elI (j := u) (z := ((min (t1.low u) (t1.low x) : Nat) : Int)) hs 2 (by rw [fnI_len]; exact hun) rfl rfl rfl rfl rfl rfl rfl ?_
          clear hs; intro w hs; dsimp only [List.set] at hs
          refine EW.done ?_
          refine NW.seq ?_
          refine KW.goto ?_
          refine GW.jump ((⟨.slice (some an) nodes.length cn, .slice (some ao) outs.length cv, vnum2, .slice (some al2) (fnI n t2.low).length cl2, vopn2, vinn2, vparts2⟩, ⟨num2, (fnI n t2.low).set u ((min (t1.low u) (t1.low x) : Nat) : Int), opn2, inn2, met2, parts2⟩, t2.lower u (t1.low x), W' ++ [(u, j)], .slice (some aw) (W' ++ [(u, j)]).length cw)) (by first | assumption | (dsimp only; omega) | omega | (simp; omega)) (by repeat (first | exact trivial | (refine ⟨by first | rfl | (congr 2; omega) | (simp; done) | (congr 1; simp; done), ?_⟩))) ?_
          try dsimp only
          refine ⟨snoc_ne _ _, rfl, rfl, ?_, hI4, hbal2, fun u hu => by show 0 < t2.num u; rw [hnum2]; exact hmono u hu, hs⟩
          rw [← hlow2]
          exact hW2.lower u (t2.low x)
        · refine CW.cond_f rfl (by simpa using hW0) ?_
          have hW00 : W = [] := List.length_eq_zero_iff.1 (by omega)
          refine KW.skip ?_
          refine NW.jump ?_
          refine NW.end0 rfl ?_
          refine ⟨_, rfl, hs.keep, ?_⟩
          exact ⟨_, hs.pick [0, 1, 2, 3, 4, 5, 6] (by decide), ⟨.slice (some an) nodes.length cn, .slice (some ao) outs.length cv, vnum2, .slice (some al2) (fnI n t2.low).length cl2, vopn2, vinn2, vparts2⟩, ⟨num2, fnI n t2.low, opn2, inn2, met2, parts2⟩, t2, rfl, by rw [hvN], by rw [hvO], hW2, hI2 hW00, hbal2, fun u hu => by rw [hnum2]; exact hmono u hu⟩
  · skip
    intro hpass
    refine KW.seq ?_
    refine CW.region (S := noS) [(0, .q), (1, .q), (2, .l), (3, .q)] rfl ?_
    refine EW.move rfl rfl rfl rfl rfl rfl ?_
    refine EW.build (α := Unit) (pv := [(0, .int .i64 ((x0 : Nat) : Int))]) rfl rfl rfl rfl rfl rfl rfl (build80 _) ?_
    refine EW.lit1 elW ((x0, 0)) hs rfl rfl rfl rfl rfl rfl rfl ?_
    clear hs; intro b11 w hs
    replace hs := hs.close_ (E := elW) (c := 1) 0 rfl [(x0, 0)] rfl rfl (Nat.le_refl 1) (by decide)
    replace hs : St w0 S0 w (wkR b v s ++ [own elW (.slice (some ⟨b11, 0, none⟩) 1 1) [(x0, 0)]]) := hs.pick [1, 2, 3, 4, 5, 6, 7, 0] (by decide)
    have hlm := left_meet hnum hx0
    refine EW.assign rfl rfl rfl rfl rfl rfl ?_
    refine EW.done ?_
    refine NW.seq ?_
    refine KW.seq ?_
    refine CW.region (S := noS) [(0, .q), (1, .q), (2, .l)] rfl ?_
    refine EW.move rfl rfl rfl rfl rfl rfl ?_
    refine EW.move rfl rfl rfl rfl rfl rfl ?_
    refine EW.callT3 hs 7 (meet_spec _ b v s x0 (hs.sub 7) (by rw [hW.num, fnI_len]; exact hx0) (by rw [hW.low, fnI_len]; exact hx0) (by rw [hW.inn, indI_len]; exact hx0) (by rw [hW.met]; omega) (by rw [hW.opn, hop0]; simp [ints])) rfl rfl rfl rfl rfl Tryz.func42 bd42 nm42 rfl (by first | exact .inl rfl | exact .inr (fun b h => h) | exact .inr (fun b h => ‹∀ b, _ → _› b h)) ?_
    clear hs; intro v14 w H'14 hs hst14 hp14
    obtain ⟨vo14, rfl⟩ := hp14
    clear hst14
    try simp only [List.cons_append, List.nil_append, List.drop_succ_cons, List.drop_zero] at hs
    refine EW.done ?_
    refine NW.seq ?_
    refine KW.seq ?_
    refine KW.label ?_
    refine NW.seq ?_
    refine CW.sub (by repeat (first | exact trivial | (refine ⟨by first | rfl | (congr 2; omega) | (simp; done) | (congr 1; simp; done), ?_⟩))) (hpass (({ v with vopn := vo14 }, s.meet x0, t.meet x0, [(x0, 0)], .slice (some ⟨b11, 0, none⟩) 1 1)) _ ?_)
    try dsimp only
    refine ⟨by simp, hvN, hvO, hW.meet x0, hmeet0, ?_, fun u hu => ?_, hs⟩
    · show t.met + 1 + (t.meet x0).left n = n; omega
    · show 0 < upd t.num x0 (t.met + 1) u
      unfold upd
      split
      · omega
      · rename_i h; exact hu.resolve_right h
end Go.Cw.Tryz
set_option linter.unusedVariables false
set_option linter.unusedSimpArgs false
namespace Go.Cw
/-- Parts in order of their first places. -/
def headPl (nodes : List Lab) (p : List Lab) : Nat := nodes.idxOf (p.headD ⟨ByteArray.empty, ByteArray.empty⟩)
end Go.Cw
namespace Go.Cw.Tryz
open Go.Proofs Go.Cw Go.Shelf Go.Sort
attribute [local irreducible] Go.Addr.add

theorem getPl (nodes : List Lab) (a : Lab) (h : a ∈ nodes) : getM (kvPl nodes) a = some (.int .i64 ((nodes.idxOf a : Nat) : Int)) := by
  have := getM_pl nodes a (.int .i64 0) 0
  rw [if_pos h, Nat.zero_add] at this
  exact this
theorem cmp32_spec (w0 : World) (b5 mb : Nat) (nodes : List Lab) (x y : SV × List Lab) (a b : Lab) (hx : SlA elL w0 x.1.1 x.2) (hxl : x.1.2.1 = x.2.length) (hy : SlA elL w0 y.1.1 y.2) (hyl : y.1.2.1 = y.2.length)
    (hc : LDP Tryz.prog w0 64 ⟨b5, 0, none⟩ (.map (some mb))) (hm : MapA KL w0 mb (kvPl nodes)) (hxa : x.2[0]? = some a) (hyb : y.2[0]? = some b) (ha : a ∈ nodes) (hb : b ∈ nodes) (hnl : nodes.length ≤ 100000) :
    T1 Tryz.prog 32 [svV x.1, svV y.1, .pointer (some ⟨b5, 0, none⟩)] w0 fun v w' => v = .int .i64 ((nodes.idxOf a : Int) - (nodes.idxOf b : Int)) := by
  obtain ⟨⟨xA, xn, xc⟩, xs⟩ := x
  obtain ⟨⟨yA, yn, yc⟩, ys⟩ := y
  dsimp only at hx hxl hy hyl hxa hyb
  subst hxl hyl
  change T1 Tryz.prog 32 [.slice xA xs.length xc, .slice yA ys.length yc, .pointer (some ⟨b5, 0, none⟩)] w0 _
  refine KW.enterT1 (n := 17) Tryz.func32 rfl rfl rfl ?_
  have hs := St.init w0 noS
  have hx0 : 0 < xs.length := (List.getElem?_eq_some_iff.1 hxa).1
  have hy0 : 0 < ys.length := (List.getElem?_eq_some_iff.1 hyb).1
  have ha' := List.idxOf_lt_length_of_mem ha
  have hb' := List.idxOf_lt_length_of_mem hb
  obtain ⟨ax, rfl, _, hlx⟩ := hx.at_ hx0
  obtain ⟨ay, rfl, _, hly⟩ := hy.at_ hy0
  have g1 : LDP Tryz.prog w0 44 (ax.add ((0 : Int).toNat * 2)) (encL a) := hlx 0 a hxa
  have g2 : LDP Tryz.prog w0 44 (ay.add ((0 : Int).toNat * 2)) (encL b) := hly 0 b hyb
  refine KW.seq ?_
  refine CW.region (S := noS) [(0, .q)] rfl ?_
  refine EW.assign rfl rfl rfl rfl rfl rfl ?_
  refine EW.done ?_
  refine NW.seq ?_
  refine KW.seq ?_
  refine CW.regionD (noS) [(0, .q), (1, .q), (2, .q), (3, .q), (4, .q), (5, .q), (6, .q), (7, .q), (8, .q), (9, .q), (10, .q), (11, .q)] mixed (by kernel_rfl) ?_
  replace hs := hs.drew
  refine EW.loadP rfl rfl rfl rfl rfl rfl (by first | assumption | (apply LDP.drew; assumption) | exact St.ld1 hs 0 rfl rfl | exact St.ldA hs 0 rfl rfl rfl | exact St.ld1 hs 1 rfl rfl | exact St.ldA hs 1 rfl rfl rfl | exact St.ld1 hs 2 rfl rfl | exact St.ldA hs 2 rfl rfl rfl | exact St.ld1 hs 3 rfl rfl | exact St.ldA hs 3 rfl rfl rfl | exact St.ld1 hs 4 rfl rfl | exact St.ldA hs 4 rfl rfl rfl | exact St.ld1 hs 5 rfl rfl | exact St.ldA hs 5 rfl rfl rfl | exact St.ld1 hs 6 rfl rfl | exact St.ldA hs 6 rfl rfl rfl) (by first | exact .inl rfl | exact .inr (fun h => h)) ?_
  refine EW.move rfl rfl rfl rfl rfl rfl ?_
  refine EW.indexAddr rfl rfl rfl rfl rfl rfl rfl (by omega) (by omega) ?_
  refine EW.loadP rfl rfl rfl rfl rfl rfl (by first | assumption | (apply LDP.drew; assumption) | exact St.ld1 hs 0 rfl rfl | exact St.ldA hs 0 rfl rfl rfl | exact St.ld1 hs 1 rfl rfl | exact St.ldA hs 1 rfl rfl rfl | exact St.ld1 hs 2 rfl rfl | exact St.ldA hs 2 rfl rfl rfl | exact St.ld1 hs 3 rfl rfl | exact St.ldA hs 3 rfl rfl rfl | exact St.ld1 hs 4 rfl rfl | exact St.ldA hs 4 rfl rfl rfl | exact St.ld1 hs 5 rfl rfl | exact St.ldA hs 5 rfl rfl rfl | exact St.ld1 hs 6 rfl rfl | exact St.ldA hs 6 rfl rfl rfl) (by first | exact .inl rfl | exact .inr (fun h => h)) ?_
  refine EW.lookup1 (K := KL) (a := a) (MapA.keep hm hs.keep (fun x => x)) hz3 ht64 (by rw [getPl nodes a ha]) rfl rfl rfl rfl rfl rfl rfl (.inr (fun x => x)) ?_
  refine EW.loadP rfl rfl rfl rfl rfl rfl (by first | assumption | (apply LDP.drew; assumption) | exact St.ld1 hs 0 rfl rfl | exact St.ldA hs 0 rfl rfl rfl | exact St.ld1 hs 1 rfl rfl | exact St.ldA hs 1 rfl rfl rfl | exact St.ld1 hs 2 rfl rfl | exact St.ldA hs 2 rfl rfl rfl | exact St.ld1 hs 3 rfl rfl | exact St.ldA hs 3 rfl rfl rfl | exact St.ld1 hs 4 rfl rfl | exact St.ldA hs 4 rfl rfl rfl | exact St.ld1 hs 5 rfl rfl | exact St.ldA hs 5 rfl rfl rfl | exact St.ld1 hs 6 rfl rfl | exact St.ldA hs 6 rfl rfl rfl) (by first | exact .inl rfl | exact .inr (fun h => h)) ?_
  refine EW.move rfl rfl rfl rfl rfl rfl ?_
  refine EW.indexAddr rfl rfl rfl rfl rfl rfl rfl (by omega) (by omega) ?_
  refine EW.loadP rfl rfl rfl rfl rfl rfl (by first | assumption | (apply LDP.drew; assumption) | exact St.ld1 hs 0 rfl rfl | exact St.ldA hs 0 rfl rfl rfl | exact St.ld1 hs 1 rfl rfl | exact St.ldA hs 1 rfl rfl rfl | exact St.ld1 hs 2 rfl rfl | exact St.ldA hs 2 rfl rfl rfl | exact St.ld1 hs 3 rfl rfl | exact St.ldA hs 3 rfl rfl rfl | exact St.ld1 hs 4 rfl rfl | exact St.ldA hs 4 rfl rfl rfl | exact St.ld1 hs 5 rfl rfl | exact St.ldA hs 5 rfl rfl rfl | exact St.ld1 hs 6 rfl rfl | exact St.ldA hs 6 rfl rfl rfl) (by first | exact .inl rfl | exact .inr (fun h => h)) ?_
  refine EW.lookup1 (K := KL) (a := b) (MapA.keep hm hs.keep (fun x => x)) hz3 ht64 (by rw [getPl nodes b hb]) rfl rfl rfl rfl rfl rfl rfl (.inr (fun x => x)) ?_
  refine EW.bin rfl rfl rfl rfl rfl rfl rfl (BV.sub (wrap_i64 (by omega) (by omega))) ?_
  refine EW.assign rfl rfl rfl rfl rfl rfl ?_
  refine EW.done ?_
  refine NW.seq ?_
  refine KW.ret1 rfl rfl ?_
  refine ⟨_, rfl, hs.keep, ?_⟩
  rfl

theorem SortP_spec (w0 : World) (A : Option Addr) (c b5 mb : Nat) (nodes : List Lab) (ps : List (SV × List Lab)) (hs : St w0 (fpU [own elP (.slice A ps.length c) (ps.map (·.1)), rows elL ps]) w0 [own elP (.slice A ps.length c) (ps.map (·.1)), rows elL ps])
    (hc : LDP Tryz.prog w0 64 ⟨b5, 0, none⟩ (.map (some mb))) (hm : MapA KL w0 mb (kvPl nodes)) (hb5 : ¬ fpU [own elP (.slice A ps.length c) (ps.map (·.1)), rows elL ps] b5) (hmb : ¬ fpU [own elP (.slice A ps.length c) (ps.map (·.1)), rows elL ps] mb)
    (hne : ∀ p ∈ ps, p.2 ≠ []) (hin : ∀ p ∈ ps, ∀ a ∈ p.2, a ∈ nodes) (hnl : nodes.length ≤ 100000) (hl : ps.length ≤ 1000000) :
    T3 Tryz.prog 31 [.slice A ps.length c, .func (.func 32) #[] #[.pointer (some ⟨b5, 0, none⟩)]] w0 [own elP (.slice A ps.length c) (ps.map (·.1)), rows elL ps] fun r w' H' => ∃ qs : List (SV × List Lab), H' = [own elP (.slice A qs.length c) (qs.map (·.1)), rows elL qs] ∧ qs.Perm ps ∧ qs.Pairwise fun p q => headPl nodes p.2 ≤ headPl nodes q.2 := by
  cases hps : ps with
  | nil =>
    have hm := AnyF.slices_SortFunc_none Tryz.laySortP0 A c (.func (.func 32) #[] #[.pointer (some ⟨b5, 0, none⟩)]) w0
    refine Calls.mono hm fun e w' ⟨he, hw⟩ => ?_
    subst he hw
    rw [hps] at hs
    exact ⟨_, rfl, hs.keep, _, hs, [], rfl, List.Perm.refl _, List.Pairwise.nil⟩
  | cons p0 r0 =>
    rw [← hps]
    have hpl : ps.length ≠ 0 := by rw [hps]; simp
    obtain ⟨Ad, rfl⟩ : ∃ ad, A = some ad := by
      obtain ⟨A', c', he, hsl, _⟩ := own_sl (hs.res 0 rfl)
      injection he with he
      subst he
      obtain ⟨ad, had, _⟩ := hsl.some_ (by intro h; rw [List.map_eq_nil_iff] at h; rw [h] at hpl; simp at hpl)
      exact ⟨ad, had⟩
    obtain ⟨g', cs, rfl, _, _, _, _, _, hs1⟩ := hs.open_ 0 rfl
    have hlt : g' < w0.heap.size := (pt g' _).old w0 (hs1.res 0 rfl) g' rfl
    clear hs1
    haveI : Inhabited { q : SV × List Lab // q ∈ ps } := ⟨⟨p0, by rw [hps]; simp⟩⟩
    obtain ⟨d, hd⟩ : ∃ d : List { q : SV × List Lab // q ∈ ps }, d = ps.pmap (fun q h => ⟨q, h⟩) (fun q h => h) := ⟨_, rfl⟩
    have hdm : d.map (·.1) = ps := by rw [hd]; simp [List.map_pmap]
    have hdx : d.map (fun x => x.1.1) = ps.map (·.1) := by have := congrArg (List.map (fun (q : SV × List Lab) => q.1)) hdm; rw [List.map_map] at this; exact this
    have hds : d.length = ps.length := by rw [hd]; simp
    have hown : (own elP (.slice (some ⟨g', 0, none⟩) ps.length c) (d.map (fun x => x.1.1))).holds w0 := by rw [hdx]; exact hs.res 0 rfl
    have hH := holds_own elP (fun (x : { q : SV × List Lab // q ∈ ps }) => x.1.1) (fun x => svV x.1.1) (fun _ => rfl) rfl hown
    let cf : { q : SV × List Lab // q ∈ ps } → { q : SV × List Lab // q ∈ ps } → Int := fun x y => (headPl nodes x.1.2 : Int) - (headPl nodes y.1.2 : Int)
    have hlt' : ∀ x y, ltOf cf x y = decide (headPl nodes x.1.2 < headPl nodes y.1.2) := fun x y => by
      show decide ((headPl nodes x.1.2 : Int) - (headPl nodes y.1.2 : Int) < 0) = _
      by_cases h : headPl nodes x.1.2 < headPl nodes y.1.2
      · rw [decide_eq_true h, decide_eq_true (by omega)]
      · rw [decide_eq_false h, decide_eq_false (by omega)]
    have swo : SWO (ltOf cf) := ⟨fun x => by rw [hlt']; simp, fun x y z h1 h2 => by rw [hlt'] at *; simp at *; omega, fun x y z h1 h2 => by rw [hlt'] at *; simp at *; omega⟩
    have hhead : ∀ p ∈ ps, ∃ a, p.2[0]? = some a ∧ a ∈ nodes ∧ headPl nodes p.2 = nodes.idxOf a := fun p hp => by
      have h1 := hne p hp
      have h2 := hin p hp
      cases hp2 : p.2 with
      | nil => exact absurd hp2 h1
      | cons a r => exact ⟨a, by simp, h2 a (by rw [hp2]; simp), by simp [headPl]⟩
    have hcmp : CmpLays1 Tryz.prog 32 #[.pointer (some ⟨b5, 0, none⟩)] (fun (x : { q : SV × List Lab // q ∈ ps }) => svV x.1.1) cf g' 0 d.toArray.size w0 := fun m os dk hdk x y => by
      obtain ⟨hk, _⟩ := own_sorted elP (fun (x : { q : SV × List Lab // q ∈ ps }) => x.1.1) (fun x => svV x.1.1) (fun _ => rfl) rfl (m := m) (os := os) (ys := dk.toList) hown (by simpa using hdk)
      rw [hdx] at hk
      obtain ⟨a, ha1, ha2, ha3⟩ := hhead x.1 x.2
      obtain ⟨b, hb1, hb2, hb3⟩ := hhead y.1 y.2
      have hrow := hs.res 1 rfl
      have hap : ∀ b, (rows elL ps).fp b → ¬ (own elP (.slice (some ⟨g', 0, none⟩) ps.length c) (ps.map (·.1))).fp b := fun b hb hb' => hs.apart 0 1 rfl rfl rfl b hb' hb
      have hsl : ∀ p ∈ ps, SlA elL (grow (putRow (fun (x : { q : SV × List Lab // q ∈ ps }) => svV x.1.1) (Sort.ahead w0 m) g' 0 dk.toList.toArray) os) p.1.1 p.2 ∧ p.1.2.1 = p.2.length := fun p hp => by
        obtain ⟨j, hj⟩ := List.mem_iff_getElem?.1 hp
        obtain ⟨h1, h2, _⟩ := own_slA (rows_get hrow hj)
        refine ⟨h1.keep hk fun ad had hfp => hap ad.block ⟨p, hp, ?_⟩ hfp, h2⟩
        obtain ⟨A', c', he, _, _, _, hA', _⟩ := own_sl (rows_get hrow hj)
        have := (hA' ad (by
          have e : A' = p.1.1 := by
            have := he
            simp only [svV] at this
            injection this with e1
            exact e1.symm
          rw [e]; exact had)).1
        exact this
      have h := cmp32_spec _ b5 mb nodes x.1 y.1 a b (hsl _ x.2).1 (hsl _ x.2).2 (hsl _ y.2).1 (hsl _ y.2).2 (hc.keep hk (fun hb => hb5 ⟨_, List.mem_cons_self, hb⟩)) (hm.keep hk (fun hb => hmb ⟨_, List.mem_cons_self, hb⟩)) ha1 hb1 ha2 hb2 hnl
      have h2 := h.grows (fun _ _ h => h)
      rw [← ha3, ← hb3] at h2
      exact h2
    have eg : ∀ args w, (callFunc 32 args).run Tryz.prog w = .ok (.enter 32 args) w := enters_of Tryz.func32 (by kernel_rfl) rfl
    have hmm := Any.slices_SortFunc Tryz.laySortP (fun (x : { q : SV × List Lab // q ∈ ps }) => svV x.1.1) (fun _ => rfl) cf swo 32 #[.pointer (some ⟨b5, 0, none⟩)] g' 0 c d.toArray w0 eg hcmp hH hlt (by simp only [List.size_toArray, hds]; omega)
    have hargs : (#[.slice (some ⟨g', 0, none⟩) d.toArray.size c, .func (.func 32) #[] #[.pointer (some ⟨b5, 0, none⟩)]] : Array Value) = [.slice (some ⟨g', 0, none⟩) ps.length c, .func (.func 32) #[] #[.pointer (some ⟨b5, 0, none⟩)]].toArray := by simp [hds]
    rw [hargs] at hmm
    refine Calls.mono hmm fun e w' ⟨he, d', n, os, hp, hso, hw⟩ => ?_
    subst he hw
    obtain ⟨hp1, _, hp3⟩ := hp
    have hd's : d'.size = d.length := by simpa using hp1
    obtain ⟨hk, ho⟩ := own_sorted elP (fun (x : { q : SV × List Lab // q ∈ ps }) => x.1.1) (fun x => svV x.1.1) (fun _ => rfl) rfl (m := n) (os := os) (ys := d'.toList) hown (by simpa using hd's)
    have hperm : (d'.toList.map (·.1)).Perm ps := by
      have h1 : d'.extract 0 d.toArray.size = d' := by rw [List.size_toArray, ← hd's]; simp
      have h2 : d.toArray.extract 0 d.toArray.size = d.toArray := by simp
      rw [h1, h2] at hp3
      have h3 := hp3.map (fun x => x.1)
      rw [show d.toArray.toList = d from rfl, hdm] at h3
      exact h3
    have hso' : (d'.toList.map (·.1)).Pairwise fun p q => headPl nodes p.2 ≤ headPl nodes q.2 := by
      rw [List.pairwise_map, List.pairwise_iff_getElem]
      intro i j hi hj hij
      have hj' : j < d'.size := by simpa using hj
      have hi' : i < d'.size := by omega
      have h := hso i j (Nat.zero_le _) hij (by simp only [List.size_toArray]; omega)
      rw [hlt', getElem!_pos d' i hi', getElem!_pos d' j hj'] at h
      simpa using h
    rw [hdx] at hk
    have hlen : (d'.toList.map (·.1)).length = ps.length := hperm.length_eq
    have hst := hs.turn 0 (R' := own elP (.slice (some ⟨g', 0, none⟩) ps.length c) (d'.toList.map (fun x => x.1.1))) rfl hk ho (fun b hb => .inl hb)
    dsimp only [List.set] at hst
    have hst2 := (hst.pick [1, 0] (by decide)).rowPerm hperm.symm
    have hst3 := hst2.pick [1, 0] (by decide)
    refine ⟨_, rfl, hst.keep, _, hst3, d'.toList.map (·.1), ?_, hperm, hso'⟩
    rw [hlen, List.map_map]; rfl
end Go.Cw.Tryz
set_option linter.unusedVariables false
set_option linter.unusedSimpArgs false
namespace Go.Cw.Tryz
open Go.Proofs Go.Cw
/-- The edges by places. -/
def outPl (nodes : List Lab) (E : List Edg) (u : Nat) : List Nat := match nodes[u]? with
  | some a => (risingL (outOf E a)).map nodes.idxOf
  | none => []
theorem idx_get {nodes : List Lab} (hnd : nodes.Nodup) {u : Nat} {a : Lab} (h : nodes[u]? = some a) : nodes.idxOf a = u := by
  obtain ⟨hu, he⟩ := List.getElem?_eq_some_iff.1 h
  rw [← he]; exact hnd.idxOf_getElem u hu
theorem get_idx {nodes : List Lab} {a : Lab} (h : a ∈ nodes) : nodes[nodes.idxOf a]? = some a := by
  have hl := List.idxOf_lt_length_of_mem h
  rw [List.getElem?_eq_getElem hl, List.getElem_idxOf hl]
theorem mem_outPl {nodes : List Lab} {E : List Edg} {u x : Nat} {a : Lab} (ha : nodes[u]? = some a) : x ∈ outPl nodes E u ↔ ∃ b, (a, b) ∈ E ∧ nodes.idxOf b = x := by
  unfold outPl
  rw [ha]
  simp only [List.mem_map, (rising_spec _).2, outOf_mem]
section
variable {nodes : List Lab} {E : List Edg}
theorem outPl_lt (hwf : ∀ e ∈ E, e.1 ∈ nodes ∧ e.2 ∈ nodes) {u x : Nat} (h : x ∈ outPl nodes E u) : x < nodes.length := by
  cases ha : nodes[u]? with
  | none => unfold outPl at h; rw [ha] at h; simp at h
  | some a =>
    obtain ⟨b, hb, rfl⟩ := (mem_outPl ha).1 h
    exact List.idxOf_lt_length_of_mem (hwf _ hb).2
theorem rt_rc (hnd : nodes.Nodup) (hwf : ∀ e ∈ E, e.1 ∈ nodes ∧ e.2 ∈ nodes) {u v : Nat} {a b : Lab} (ha : nodes[u]? = some a) (hb : nodes[v]? = some b) : Rt (outPl nodes E) u v ↔ Rc E a b := by
  constructor
  · intro h
    have gen : ∀ v, Rt (outPl nodes E) u v → ∀ b, nodes[v]? = some b → Rc E a b := by
      intro v h
      induction h with
      | refl => intro b hb; rw [ha] at hb; injection hb with hb; rw [hb]; exact Rc.refl _ _
      | step x y hx hy ih =>
        intro b hb
        cases hc : nodes[x]? with
        | none => unfold outPl at hy; rw [hc] at hy; simp at hy
        | some c =>
          obtain ⟨b', hb', hi⟩ := (mem_outPl hc).1 hy
          have h1 := get_idx (hwf _ hb').2
          dsimp only at h1
          rw [hi, hb] at h1
          injection h1 with h1
          exact (ih c hc).step (h1 ▸ hb')
    exact gen v h b hb
  · intro h
    have gen : ∀ b, Rc E a b → Rt (outPl nodes E) u (nodes.idxOf b) := by
      intro b h
      unfold Rc at h
      induction h with
      | base x hx => subst hx; rw [idx_get hnd ha]; exact .refl
      | step x y _ he ih => exact .step _ _ ih ((mem_outPl (get_idx (hwf _ he).1)).2 ⟨_, he, rfl⟩)
    have := gen b h
    rwa [idx_get hnd hb] at this
theorem labsAt_mem {p : List Nat} {b : Lab} : b ∈ labsAt nodes p ↔ ∃ v ∈ p, nodes[v]? = some b := by simp [labsAt]
/-- What Tarjan's walk found, in the order of the first places, are the strongest parts. -/
theorem parts_of_walk {N : List Lab} {t : TJ} (hso : SortedL nodes) (hnm : ∀ a, a ∈ nodes ↔ a ∈ N) (hwf : ∀ e ∈ E, e.1 ∈ nodes ∧ e.2 ∈ nodes) (hI : TInv nodes.length (outPl nodes E) t []) (hall : ∀ u, u < nodes.length → 0 < t.num u)
    {qs : List (List Lab)} (hperm : qs.Perm (t.parts.map (labsAt nodes))) (hord : qs.Pairwise fun p q => headPl nodes p ≤ headPl nodes q) : IsParts N E qs := by
  have hnd : nodes.Nodup := hso.imp fun {a b} h e => by rw [e, lt_irrefl] at h; cases h
  have hop : t.opn = [] := by have := hI.whead; simpa [grey] using this
  have hlt : ∀ p ∈ t.parts, ∀ v ∈ p, v < nodes.length := fun p hp v hv => hI.lt v (hI.cl p hp v hv).1
  have hmono : ∀ u v a b, u < v → nodes[u]? = some a → nodes[v]? = some b → ltLab a b = true := fun u v a b huv ha hb => by
    obtain ⟨h1, h2⟩ := List.getElem?_eq_some_iff.1 ha
    obtain ⟨h3, h4⟩ := List.getElem?_eq_some_iff.1 hb
    rw [← h2, ← h4]
    exact List.pairwise_iff_getElem.1 hso u v h1 h3 huv
  have hmem : ∀ p, p ∈ qs ↔ ∃ q ∈ t.parts, labsAt nodes q = p := fun p => by rw [hperm.mem_iff]; simp
  have hinj : ∀ u v b, nodes[u]? = some b → nodes[v]? = some b → u = v := fun u v b hu hv => by
    rw [← idx_get hnd hu, ← idx_get hnd hv]
  have hget : ∀ q ∈ t.parts, ∀ v ∈ q, ∃ a, nodes[v]? = some a := fun q hq v hv => ⟨_, List.getElem?_eq_getElem (hlt q hq v hv)⟩
  have hne : ∀ p ∈ qs, p ≠ [] := fun p hp => by
    obtain ⟨q, hq, rfl⟩ := (hmem p).1 hp
    have h1 := (hI.scc q hq).1
    cases hqe : q with
    | nil => exact absurd hqe h1
    | cons v r =>
      obtain ⟨a, ha⟩ := hget q hq v (by rw [hqe]; simp)
      have : a ∈ labsAt nodes q := labsAt_mem.2 ⟨v, by rw [hqe]; simp, ha⟩
      rw [← hqe]
      intro h; rw [h] at this; simp at this
  have hdis : qs.Pairwise fun p q => ∀ a ∈ p, a ∉ q := by
    refine (hperm.pairwise_iff (fun {p q} h a hq hp => h a hp hq)).2 ?_
    rw [List.pairwise_map]
    refine hI.apart.imp fun {p q} h a ha hb => ?_
    obtain ⟨u, hu, hua⟩ := labsAt_mem.1 ha
    obtain ⟨v, hv, hva⟩ := labsAt_mem.1 hb
    exact h u hu (hinj u v a hua hva ▸ hv)
  have hhead : ∀ p ∈ qs, ∃ a, p.head? = some a ∧ a ∈ p ∧ a ∈ nodes ∧ headPl nodes p = nodes.idxOf a := fun p hp => by
    have h1 := hne p hp
    obtain ⟨q, hq, hqp⟩ := (hmem p).1 hp
    cases hpe : p with
    | nil => exact absurd hpe h1
    | cons a r =>
      have ha : a ∈ labsAt nodes q := by rw [hqp, hpe]; simp
      obtain ⟨v, _, hv⟩ := labsAt_mem.1 ha
      exact ⟨a, by simp, by simp, List.mem_of_getElem? hv, by simp [headPl]⟩
  refine ⟨fun p hp => ?_, hne, ?_, fun a => ?_, fun p hp a ha b => ?_⟩
  · obtain ⟨q, hq, rfl⟩ := (hmem p).1 hp
    unfold SortedL labsAt
    rw [List.pairwise_filterMap]
    have h1 := hI.psort q hq
    have h2 := (hI.scc q hq).2.1
    refine (h1.and h2).imp fun {u v} huv a ha b hb => hmono u v a b (by omega) ha hb
  · refine (hord.and hdis).imp_of_mem fun {p q} hp hq hpq a ha b hb => ?_
    obtain ⟨a', h1, h2, h3, h4⟩ := hhead p hp
    obtain ⟨b', h5, h6, h7, h8⟩ := hhead q hq
    rw [h1] at ha; rw [h5] at hb
    injection ha with ha; injection hb with hb
    subst ha hb
    have hne' : nodes.idxOf a' ≠ nodes.idxOf b' := fun e => by
      have e1 := get_idx h3
      have e2 := get_idx h7
      rw [e, e2] at e1
      injection e1 with e1
      exact hpq.2 a' h2 (e1 ▸ h6)
    exact hmono _ _ a' b' (by have := hpq.1; omega) (get_idx h3) (get_idx h7)
  · constructor
    · intro ha
      have ha' := (hnm a).2 ha
      have hv := List.idxOf_lt_length_of_mem ha'
      rcases hI.vis _ (hall _ hv) with h | ⟨p, hp, h⟩
      · rw [hop] at h; simp at h
      · exact ⟨labsAt nodes p, (hmem _).2 ⟨p, hp, rfl⟩, labsAt_mem.2 ⟨_, h, get_idx ha'⟩⟩
    · rintro ⟨p, hp, ha⟩
      obtain ⟨q, _, rfl⟩ := (hmem p).1 hp
      obtain ⟨v, _, hv⟩ := labsAt_mem.1 ha
      exact (hnm a).1 (List.mem_of_getElem? hv)
  · obtain ⟨q, hq, rfl⟩ := (hmem p).1 hp
    obtain ⟨u, hu, hua⟩ := labsAt_mem.1 ha
    have hs := (hI.scc q hq).2.2 u hu
    constructor
    · intro hb
      obtain ⟨v, hv, hvb⟩ := labsAt_mem.1 hb
      obtain ⟨h1, h2⟩ := (hs v).1 hv
      exact ⟨(rt_rc hnd hwf hua hvb).1 h1, (rt_rc hnd hwf hvb hua).1 h2⟩
    · rintro ⟨h1, h2⟩
      have hb : b ∈ nodes := by
        unfold Rc at h1
        cases h1 with
        | base x hx => subst hx; exact List.mem_of_getElem? hua
        | step x y _ he => exact (hwf _ he).2
      have hvb := get_idx hb
      exact labsAt_mem.2 ⟨_, (hs _).2 ⟨(rt_rc hnd hwf hua hvb).2 h1, (rt_rc hnd hwf hvb hua).2 h2⟩, hvb⟩
end
theorem tinv_start (n : Nat) (out : Nat → List Nat) : TInv n out ⟨fun _ => 0, fun _ => 0, [], 0, []⟩ [] := by
  refine ⟨by simp, by simp, by simp, by simp, by simp, by simp [grey], by simp, by simp, by simp [grey], by simp, by simp, by simp, by simp, by simp, by simp, by simp [grey], by simp, by simp, by simp, by simp, by simp, by simp⟩
end Go.Cw.Tryz
