/- Proved here, as a part of the claim: how the code of the program walks (CwAL, CwAM, CwAN, CwAO, CwAP, CwAQ). -/
import Derived.Test.YtbnjfehippbbfaaGreatDoorGf
set_option linter.unusedVariables false
set_option linter.unusedSimpArgs false
namespace Go.Cw.Tryz
open Go.Proofs Go.Cw Go.Shelf Go.Sort
attribute [local irreducible] Go.Addr.add
theorem St.apartU {w0 w : World} {S0 : Nat → Prop} {H : List Res} {R : Res} (hs : St w0 S0 w H) (k j : Nat) (hkj : Nat.ble k j = true) (hj : H[j]? = some R) : ∀ b, R.fp b → ¬ fpU (H.take k) b := fun b hb ⟨R', hR', hb'⟩ => by
  obtain ⟨i, hi⟩ := List.mem_iff_getElem?.1 hR'
  rw [List.getElem?_take] at hi
  split at hi
  · rename_i hik
    have := Nat.le_of_ble_eq_true hkj
    exact hs.apart i j (by rw [Nat.blt_eq]; omega) hi hj b hb' hb
  · cases hi
theorem own_fp {α : Type} {E : El Tryz.prog α} {w : World} {A : Option Addr} {n c : Nat} {xs : List α} (h : (own E (.slice A n c) xs).holds w) : ∀ ad, A = some ad → (own E (.slice A n c) xs).fp ad.block := fun ad had => by
  obtain ⟨A', c', he, _, _, _, hA, _⟩ := own_sl h
  injection he with e1 e2 e3
  subst e1
  exact (hA ad had).1
theorem parts_good {n : Nat} {out : Nat → List Nat} {nodes : List Lab} {t : TJ} {way : Way} (hI : TInv nodes.length out t way) {s : WS} (hW : WIs n nodes s t) : ∀ p ∈ s.parts, p.2 ≠ [] ∧ ∀ a ∈ p.2, a ∈ nodes := fun p hp => by
  have h1 : p.2 ∈ t.parts.map (labsAt nodes) := by rw [← hW.parts]; exact List.mem_map.2 ⟨p, hp, rfl⟩
  obtain ⟨q, hq, he⟩ := List.mem_map.1 h1
  rw [← he]
  refine ⟨fun h => ?_, fun a ha => ?_⟩
  · have hne := (hI.scc q hq).1
    cases hqe : q with
    | nil => exact hne hqe
    | cons v r =>
      have hv : v < nodes.length := hI.lt v (hI.cl q hq v (by rw [hqe]; simp)).1
      have : nodes[v] ∈ labsAt nodes q := labsAt_mem.2 ⟨v, by rw [hqe]; simp, by simp⟩
      rw [h] at this; simp at this
  · obtain ⟨v, _, hv⟩ := labsAt_mem.1 ha
    exact List.mem_of_getElem? hv
theorem Parts_spec (w0 : World) (b mb : Nat) (ps : List PE) (g : RG) (hg : PGA w0 b mb ps) (hp : IsPG ps g) (hok : g.Ok) (hbig : g.Big 100000) (hnl : g.N.length ≤ 100000) (hsm : ∀ a ∈ g.N, Cw.Sm a) (hgl : GL w0) :
    T1 Tryz.prog 8 [.pointer (some ⟨b, 0, none⟩)] w0 fun v w' => ∃ xss, IsParts g.N g.E xss ∧ PartsPost w0 xss v w' := by
  refine KW.enterT1 (n := 55) Tryz.func8 rfl rfl rfl ?_
  have hs := St.init w0 noS
  refine KW.seq ?_
  refine CW.region (S := noS) [(0, .q)] rfl ?_
  refine EW.assign rfl rfl rfl rfl rfl rfl ?_
  refine EW.done ?_
  refine NW.seq ?_
  refine KW.seq ?_
  refine CW.region (S := noS) [(0, .q), (1, .l), (2, .q)] rfl ?_
  refine EW.move rfl rfl rfl rfl rfl rfl ?_
  refine EW.callT1 (begun_spec _ b mb ps g (hg.stay hs.keep) hp hok hbig hnl hsm (hgl.stay hs.keep)) rfl rfl rfl rfl rfl Tryz.func29 bd29 nm29 rfl ?_
  intro v9 w hk9 hp9
  obtain ⟨bw, v, An, cn, Av, cv, outs, rfl, hvN, hvO, houts, hst⟩ := hp9
  replace hs := hs.plus hst
  obtain ⟨nodes, hnodes⟩ : ∃ nodes, nodes = risingL g.N := ⟨_, rfl⟩
  rw [← hnodes] at hs hvN houts
  clear hst
  have hnm : ∀ a, a ∈ nodes ↔ a ∈ g.N := fun a => by rw [hnodes]; exact (rising_spec _).2 a
  have hso : SortedL nodes := by rw [hnodes]; exact (rising_spec g.N).1
  have hnlen : nodes.length ≤ 100000 := by rw [hnodes]; exact Nat.le_trans (length_risingL _) hnl
  have hnd : nodes.Nodup := hso.imp fun {a b} h e => by rw [e, lt_irrefl] at h; cases h
  have hwf : ∀ e ∈ g.E, e.1 ∈ nodes ∧ e.2 ∈ nodes := fun e he => ⟨(hnm _).2 (hok.wf e he).1, (hnm _).2 (hok.wf e he).2⟩
  have hol : outs.length = nodes.length := by have := congrArg List.length houts; simpa using this
  have hout : ∀ u, u < nodes.length → ∃ sv, outs[u]? = some (sv, ints (outPl nodes g.E u)) := fun u hu => by
    have h1 : u < outs.length := by omega
    have h2 : (outs.map (·.2))[u]? = some (plOf nodes (risingL (outOf g.E nodes[u]))) := by rw [houts]; simp [hu]
    rw [List.getElem?_map, List.getElem?_eq_getElem h1] at h2
    simp only [Option.map_some, Option.some.injEq] at h2
    refine ⟨outs[u].1, ?_⟩
    rw [List.getElem?_eq_getElem h1]
    congr 1
    refine Prod.ext rfl ?_
    show outs[u].2 = _
    rw [h2]
    unfold outPl plOf ints
    rw [List.getElem?_eq_getElem hu, List.map_map]; rfl
  have hot : ∀ u, u < nodes.length → ∀ y ∈ outPl nodes g.E u, y < nodes.length := fun u _ y hy => outPl_lt hwf hy
  have hod : ∀ u, u < nodes.length → (outPl nodes g.E u).length ≤ 100000 := fun u hu => by
    unfold outPl
    rw [List.getElem?_eq_getElem hu]
    simp only [List.length_map]
    exact Nat.le_trans (length_risingL _) (Nat.le_trans (outOf_len _ _) hbig.e)
  have hleft : (⟨fun _ => 0, fun _ => 0, [], 0, []⟩ : TJ).left nodes.length = nodes.length := by
    unfold TJ.left
    rw [List.filter_eq_self.2 (by simp)]; simp
  rw [hvN, hvO] at hs
  obtain ⟨vN, vO, vnum, vlow, vopn, vinn, vparts⟩ := v
  dsimp only at hvN hvO
  subst hvN hvO
  refine EW.assign rfl rfl rfl rfl rfl rfl ?_
  refine EW.done ?_
  refine NW.seq ?_
  refine KW.seq ?_
  refine KW.seq ?_
  refine CW.region (S := noS) [(0, .q), (1, .q), (2, .q), (3, .q), (4, .q), (5, .q)] rfl ?_
  refine EW.move rfl rfl rfl rfl rfl rfl ?_
  refine EW.nilCheck rfl rfl rfl rfl rfl rfl ?_
  first | refine EW.fieldAddr rfl rfl rfl rfl rfl rfl ?_ | refine EW.fieldAddrA rfl rfl rfl rfl rfl rfl ?_
  refine EW.loadP rfl rfl rfl rfl rfl rfl (by first | assumption | (apply LDP.drew; assumption) | exact St.ld1 hs 0 rfl rfl | exact St.ldA hs 0 rfl rfl rfl | exact St.ld1 hs 1 rfl rfl | exact St.ldA hs 1 rfl rfl rfl | exact St.ld1 hs 2 rfl rfl | exact St.ldA hs 2 rfl rfl rfl | exact St.ld1 hs 3 rfl rfl | exact St.ldA hs 3 rfl rfl rfl | exact St.ld1 hs 4 rfl rfl | exact St.ldA hs 4 rfl rfl rfl | exact St.ld1 hs 5 rfl rfl | exact St.ldA hs 5 rfl rfl rfl | exact St.ld1 hs 6 rfl rfl | exact St.ldA hs 6 rfl rfl rfl) (by first | exact .inl rfl | exact .inr (fun h => h)) ?_
  refine EW.len rfl rfl rfl rfl rfl rfl ?_
  refine EW.move rfl rfl rfl rfl rfl rfl ?_
  refine EW.done ?_
  refine NW.seq ?_
  refine KW.block ?_
  refine KW.loop (ι := Nat × WV × WS × TJ) (fun i => nodes.length - i.1) (fun i => [(3, .pointer (some ⟨bw, 0, none⟩)), (14, .int .i64 (nodes.length : Int)), (15, .int .i64 (i.1 : Int))]) (fun i w => i.1 ≤ nodes.length ∧ i.2.1.vN = .slice An nodes.length cn ∧ i.2.1.vO = .slice Av outs.length cv ∧ WIs nodes.length nodes i.2.2.1 i.2.2.2 ∧ TInv nodes.length (outPl nodes g.E) i.2.2.2 [] ∧ i.2.2.2.met + i.2.2.2.left nodes.length = nodes.length ∧ (∀ u, u < i.1 → 0 < i.2.2.2.num u) ∧ St w0 noS w (wkR bw i.2.1 i.2.2.1 ++ [rows elI outs, own elO (.slice Av outs.length cv) (outs.map (·.1)), own elL (.slice An nodes.length cn) nodes])) (0, ⟨.slice An nodes.length cn, .slice Av outs.length cv, vnum, vlow, vopn, vinn, vparts⟩, ⟨List.replicate nodes.length 0, List.replicate nodes.length 0, [], List.replicate nodes.length 0, 0, []⟩, ⟨fun _ => 0, fun _ => 0, [], 0, []⟩) (by repeat (first | exact trivial | (refine ⟨by first | rfl | (congr 2; omega) | (simp; done) | (congr 1; simp; done), ?_⟩))) ?_ ?_
  · refine ⟨Nat.zero_le _, rfl, rfl, ⟨?_, ?_, rfl, ?_, rfl, rfl⟩, tinv_start _ _, by show 0 + _ = _; rw [hleft]; omega, by simp, ?_⟩
    · simp [fnI, List.map_const']
    · simp [fnI, List.map_const']
    · simp [indI, List.map_const']
    · rw [List.append_nil] at hs; exact hs
  clear hs
  rintro ⟨k, v1, s1, t1⟩ w ⟨hk, hv1, hv2, hW1, hI1, hbal1, hvis, hs1⟩
  dsimp only at hk hv1 hv2 hW1 hI1 hbal1 hvis hs1
  obtain ⟨vN, vO, vnum, vlow, vopn, vinn, vparts⟩ := v1
  obtain ⟨num, low, opn, inn, met, parts⟩ := s1
  dsimp only at hv1 hv2
  subst hv1 hv2
  have hWn : num = fnI nodes.length t1.num := hW1.num
  subst hWn
  have hle1 := fnI_len nodes.length t1.num
  have hE1 : wkR bw ⟨.slice An nodes.length cn, .slice Av outs.length cv, vnum, vlow, vopn, vinn, vparts⟩ ⟨fnI nodes.length t1.num, low, opn, inn, met, parts⟩ = [pt bw (.cells #[.slice An nodes.length cn, .slice Av outs.length cv, vnum, vlow, vopn, vinn, .int .i64 (met : Int), vparts] 62), own elI vnum (fnI nodes.length t1.num), own elI vlow low, own elI vopn opn, own elI vinn inn, own elP vparts (parts.map (·.1)), rows elL parts] := rfl
  have hs := hs1
  rw [hE1] at hs
  simp only [List.cons_append, List.nil_append] at hs
  obtain ⟨Anum, cnum, rfl, hsn, _⟩ := own_sl (hs.res 1 rfl)
  refine KW.seq ?_
  refine CW.region (S := noS) [(0, .q)] rfl ?_
  refine EW.bin rfl rfl rfl rfl rfl rfl rfl BV.lss ?_
  refine EW.done ?_
  refine NW.seq ?_
  refine KW.seq ?_
  by_cases hkn : k < nodes.length
  · refine CW.cond_t rfl (by simpa using hkn) ?_
    obtain ⟨anum, rfl, _, _⟩ := hsn.at_ (i := k) (by rw [hle1]; exact hkn)
    have gn : LDP Tryz.prog w 3 (anum.add (((k : Nat) : Int).toNat * 1)) (.int .i64 ((t1.num k : Nat) : Int)) := sl_ldk (hs.sl 1 rfl) (fnI_get _ hkn)
    refine KW.skip ?_
    refine NW.seq ?_
    refine KW.seq ?_
    refine KW.block ?_
    refine KW.seq ?_
    refine CW.region (S := noS) [(0, .q), (1, .q)] rfl ?_
    refine EW.move rfl rfl rfl rfl rfl rfl ?_
    refine EW.assign rfl rfl rfl rfl rfl rfl ?_
    refine EW.done ?_
    refine NW.seq ?_
    refine KW.seq ?_
    refine CW.region (S := noS) [(0, .q), (1, .q), (2, .q), (3, .q), (4, .q), (5, .q), (6, .q), (7, .q)] rfl ?_
    refine EW.move rfl rfl rfl rfl rfl rfl ?_
    refine EW.nilCheck rfl rfl rfl rfl rfl rfl ?_
    first | refine EW.fieldAddr rfl rfl rfl rfl rfl rfl ?_ | refine EW.fieldAddrA rfl rfl rfl rfl rfl rfl ?_
    refine EW.loadP rfl rfl rfl rfl rfl rfl (by first | assumption | (apply LDP.drew; assumption) | exact St.ld1 hs 0 rfl rfl | exact St.ldA hs 0 rfl rfl rfl | exact St.ld1 hs 1 rfl rfl | exact St.ldA hs 1 rfl rfl rfl | exact St.ld1 hs 2 rfl rfl | exact St.ldA hs 2 rfl rfl rfl | exact St.ld1 hs 3 rfl rfl | exact St.ldA hs 3 rfl rfl rfl | exact St.ld1 hs 4 rfl rfl | exact St.ldA hs 4 rfl rfl rfl | exact St.ld1 hs 5 rfl rfl | exact St.ldA hs 5 rfl rfl rfl | exact St.ld1 hs 6 rfl rfl | exact St.ldA hs 6 rfl rfl rfl) (by first | exact .inl rfl | exact .inr (fun h => h)) ?_
    refine EW.move rfl rfl rfl rfl rfl rfl ?_
    refine EW.indexAddr rfl rfl rfl rfl rfl rfl rfl (by omega) (by omega) ?_
    refine EW.loadP rfl rfl rfl rfl rfl rfl (by first | assumption | (apply LDP.drew; assumption) | exact St.ld1 hs 0 rfl rfl | exact St.ldA hs 0 rfl rfl rfl | exact St.ld1 hs 1 rfl rfl | exact St.ldA hs 1 rfl rfl rfl | exact St.ld1 hs 2 rfl rfl | exact St.ldA hs 2 rfl rfl rfl | exact St.ld1 hs 3 rfl rfl | exact St.ldA hs 3 rfl rfl rfl | exact St.ld1 hs 4 rfl rfl | exact St.ldA hs 4 rfl rfl rfl | exact St.ld1 hs 5 rfl rfl | exact St.ldA hs 5 rfl rfl rfl | exact St.ld1 hs 6 rfl rfl | exact St.ldA hs 6 rfl rfl rfl) (by first | exact .inl rfl | exact .inr (fun h => h)) ?_
    refine EW.bin rfl rfl rfl rfl rfl rfl rfl BV.eqi ?_
    refine EW.done ?_
    refine NW.seq ?_
    by_cases hk0 : t1.num k = 0
    · refine CW.cond_t rfl (by simpa using hk0) ?_
      have hG : GrA w (fpU (wkR bw ⟨.slice An nodes.length cn, .slice Av outs.length cv, .slice (some anum) (fnI nodes.length t1.num).length cnum, vlow, vopn, vinn, vparts⟩ ⟨fnI nodes.length t1.num, low, opn, inn, met, parts⟩)) An Av nodes outs := by
        refine ⟨hs.sl 9 rfl, fun ad had => St.apartU hs 7 9 rfl rfl _ (own_fp (hs.res 9 rfl) ad had), hs.sl 8 rfl, fun ad had => St.apartU hs 7 8 rfl rfl _ (own_fp (hs.res 8 rfl) ad had), fun p hp => ?_, fun p hp ad had => ?_⟩
        · obtain ⟨j, hj⟩ := List.mem_iff_getElem?.1 hp
          have := hs.rowSl 7 rfl hj
          exact ⟨this.1, this.2.1⟩
        · obtain ⟨j, hj⟩ := List.mem_iff_getElem?.1 hp
          have h1 : (own elI (.slice p.1.1 p.1.2.1 p.1.2.2) p.2).holds w := rows_get (hs.res 7 rfl) hj
          exact St.apartU hs 7 7 rfl rfl _ ⟨p, hp, own_fp h1 ad had⟩
      refine CW.region (S := noS) [(0, .q), (1, .q), (2, .l)] rfl ?_
      refine EW.move rfl rfl rfl rfl rfl rfl ?_
      refine EW.move rfl rfl rfl rfl rfl rfl ?_
      refine EW.callT3 hs 7 (from_spec _ bw nodes.length ⟨.slice An nodes.length cn, .slice Av outs.length cv, .slice (some anum) (fnI nodes.length t1.num).length cnum, vlow, vopn, vinn, vparts⟩ ⟨fnI nodes.length t1.num, low, opn, inn, met, parts⟩ t1 k (outPl nodes g.E) An Av cn cv nodes outs (hs.sub 7) rfl rfl hG rfl hol hnlen hout hot hod hW1 hI1 hbal1 hkn hk0) rfl rfl rfl rfl rfl Tryz.func30 bd30 nm30 rfl (by first | exact .inl rfl | exact .inr (fun b h => h) | exact .inr (fun b h => ‹∀ b, _ → _› b h)) ?_
      clear hs; intro v28 w H'28 hs hst28 hp28
      obtain ⟨v2, s2, t2, rfl, hv21, hv22, hW2, hI2, hbal2, hvis2⟩ := hp28
      clear hst28
      try simp only [List.cons_append, List.nil_append, List.drop_succ_cons, List.drop_zero] at hs
      refine EW.done ?_
      refine NW.blk ?_
      refine NW.seq ?_
      refine CW.region (S := noS) [(0, .q), (1, .q)] rfl ?_
      refine EW.bin rfl rfl rfl rfl rfl rfl rfl (BV.add (wrap_i64 (by omega) (by omega))) ?_
      refine EW.move rfl rfl rfl rfl rfl rfl ?_
      refine EW.done ?_
      refine NW.again ((k + 1, v2, s2, t2)) (by first | assumption | (dsimp only; omega) | omega | (simp; omega)) (by repeat (first | exact trivial | (refine ⟨by first | rfl | (congr 2; omega) | (simp; done) | (congr 1; simp; done), ?_⟩))) ?_
      try dsimp only
      refine ⟨hkn, hv21, hv22, hW2, hI2, hbal2, fun u hu => hvis2 u ?_, hs⟩
      rcases Nat.lt_or_ge u k with h | h
      · exact .inl (hvis u h)
      · exact .inr (by omega)
    · refine CW.cond_f rfl (by simpa using hk0) ?_
      refine KW.skip ?_
      refine NW.blk ?_
      refine NW.seq ?_
      refine CW.region (S := noS) [(0, .q), (1, .q)] rfl ?_
      refine EW.bin rfl rfl rfl rfl rfl rfl rfl (BV.add (wrap_i64 (by omega) (by omega))) ?_
      refine EW.move rfl rfl rfl rfl rfl rfl ?_
      refine EW.done ?_
      refine NW.again ((k + 1, ⟨.slice An nodes.length cn, .slice Av outs.length cv, .slice (some anum) (fnI nodes.length t1.num).length cnum, vlow, vopn, vinn, vparts⟩, ⟨fnI nodes.length t1.num, low, opn, inn, met, parts⟩, t1)) (by first | assumption | (dsimp only; omega) | omega | (simp; omega)) (by repeat (first | exact trivial | (refine ⟨by first | rfl | (congr 2; omega) | (simp; done) | (congr 1; simp; done), ?_⟩))) ?_
      try dsimp only
      refine ⟨hkn, rfl, rfl, hW1, hI1, hbal1, fun u hu => ?_, hs⟩
      rcases Nat.lt_or_ge u k with h | h
      · exact hvis u h
      · have : u = k := by omega
        subst this; omega
  · refine CW.cond_f rfl (by simpa using hkn) ?_
    have hke : k = nodes.length := by omega
    subst hke
    obtain ⟨Ap, cp, hvp, _⟩ := own_sl (hs.res 5 rfl)
    rw [List.length_map] at hvp
    subst hvp
    have hgood := parts_good hI1 hW1
    dsimp only at hgood
    have hpl : parts.length ≤ 1000000 := by
      have h1 := congrArg List.length hW1.parts
      have h2 := hI1.parts_len
      simp only [List.length_map] at h1
      omega
    refine KW.exit ?_
    refine XW.seq ?_
    refine XW.inv ?_
    refine XW.blk ?_
    refine NW.seq ?_
    refine KW.seq ?_
    refine CW.region (S := noS) [(0, .l), (1, .l), (2, .l)] rfl ?_
    refine EW.makeMap KL hs rfl rfl rfl rfl rfl ?_
    clear hs; intro b30 w hs
    refine EW.alloc (z := .map none) hs rfl rfl rfl rfl rfl (by kernel_rfl) ?_
    clear hs; intro b5 w hs; dsimp only [Value.cells] at hs
    first | refine EW.store hs 0 rfl rfl rfl rfl rfl rfl rfl rfl rfl (by simp [Value.oneCell', Value.cells]) rfl (.inl rfl) ?_ | refine EW.store hs 1 rfl rfl rfl rfl rfl rfl rfl rfl rfl (by simp [Value.oneCell', Value.cells]) rfl (.inl rfl) ?_ | refine EW.store hs 2 rfl rfl rfl rfl rfl rfl rfl rfl rfl (by simp [Value.oneCell', Value.cells]) rfl (.inl rfl) ?_ | refine EW.store hs 3 rfl rfl rfl rfl rfl rfl rfl rfl rfl (by simp [Value.oneCell', Value.cells]) rfl (.inl rfl) ?_ | refine EW.store hs 4 rfl rfl rfl rfl rfl rfl rfl rfl rfl (by simp [Value.oneCell', Value.cells]) rfl (.inl rfl) ?_ | refine EW.store hs 5 rfl rfl rfl rfl rfl rfl rfl rfl rfl (by simp [Value.oneCell', Value.cells]) rfl (.inl rfl) ?_ | refine EW.store hs 6 rfl rfl rfl rfl rfl rfl rfl rfl rfl (by simp [Value.oneCell', Value.cells]) rfl (.inl rfl) ?_
    clear hs; intro w hs; dsimp only [List.set, setAt] at hs
    refine EW.done ?_
    refine NW.seq ?_
    refine KW.seq ?_
    refine KW.seq ?_
    refine CW.region (S := noS) [(0, .q), (1, .q), (2, .q), (3, .q), (4, .q), (5, .q)] rfl ?_
    refine EW.move rfl rfl rfl rfl rfl rfl ?_
    refine EW.nilCheck rfl rfl rfl rfl rfl rfl ?_
    first | refine EW.fieldAddr rfl rfl rfl rfl rfl rfl ?_ | refine EW.fieldAddrA rfl rfl rfl rfl rfl rfl ?_
    refine EW.loadP rfl rfl rfl rfl rfl rfl (by first | assumption | (apply LDP.drew; assumption) | exact St.ld1 hs 0 rfl rfl | exact St.ldA hs 0 rfl rfl rfl | exact St.ld1 hs 1 rfl rfl | exact St.ldA hs 1 rfl rfl rfl | exact St.ld1 hs 2 rfl rfl | exact St.ldA hs 2 rfl rfl rfl | exact St.ld1 hs 3 rfl rfl | exact St.ldA hs 3 rfl rfl rfl | exact St.ld1 hs 4 rfl rfl | exact St.ldA hs 4 rfl rfl rfl | exact St.ld1 hs 5 rfl rfl | exact St.ldA hs 5 rfl rfl rfl | exact St.ld1 hs 6 rfl rfl | exact St.ldA hs 6 rfl rfl rfl) (by first | exact .inl rfl | exact .inr (fun h => h)) ?_
    refine EW.len rfl rfl rfl rfl rfl rfl ?_
    refine EW.move rfl rfl rfl rfl rfl rfl ?_
    refine EW.done ?_
    refine NW.seq ?_
    refine KW.block ?_
    replace hs := hs.pick [0, 1, 2, 7, 8, 11] (by decide)
    simp only [List.filterMap_cons, List.filterMap_nil, List.getElem?_cons_succ, List.getElem?_cons_zero] at hs
    refine KW.loop (ι := Nat) (fun k => nodes.length - k) (fun k => [(3, .pointer (some ⟨bw, 0, none⟩)), (5, .pointer (some ⟨b5, 0, none⟩)), (34, .slice An nodes.length cn), (35, .int .i64 (nodes.length : Int)), (36, .int .i64 (k : Int))]) (fun k w => k ≤ nodes.length ∧ St w0 noS w [pt b5 (.cells #[.map (some b30)] 64), mapR KL b30 (kvPl (nodes.take k)), pt bw (.cells #[.slice An nodes.length cn, .slice Av outs.length cv, .slice Anum (fnI nodes.length t1.num).length cnum, vlow, vopn, vinn, .int .i64 (met : Int), .slice Ap parts.length cp] 62), own elP (.slice Ap parts.length cp) (parts.map (·.1)), rows elL parts, own elL (.slice An nodes.length cn) nodes]) 0 (by repeat (first | exact trivial | (refine ⟨by first | rfl | (congr 2; omega) | (simp; done) | (congr 1; simp; done), ?_⟩))) ?_ ?_
    · exact ⟨Nat.zero_le _, hs⟩
    clear hs
    rintro k w ⟨hk2, hs⟩
    refine KW.seq ?_
    refine CW.region (S := noS) [(0, .q)] rfl ?_
    refine EW.bin rfl rfl rfl rfl rfl rfl rfl BV.lss ?_
    refine EW.done ?_
    refine NW.seq ?_
    refine KW.seq ?_
    by_cases hlt : k < nodes.length
    · refine CW.cond_t rfl (by simpa using hlt) ?_
      obtain ⟨ad, rfl, _, hld⟩ := (hs.sl 5 rfl).at_ hlt
      have g1 : LDP Tryz.prog w 44 (ad.add ((k : Int).toNat * 2)) (encL nodes[k]) := hld k nodes[k] (by simp)
      refine KW.skip ?_
      refine NW.seq ?_
      refine KW.seq ?_
      refine KW.block ?_
      refine KW.seq ?_
      refine CW.region (S := noS) [(0, .q), (1, .q), (2, .q), (3, .l), (4, .q), (5, .l)] rfl ?_
      refine EW.move rfl rfl rfl rfl rfl rfl ?_
      refine EW.indexAddr rfl rfl rfl rfl rfl rfl rfl (by omega) (by omega) ?_
      refine EW.loadP rfl rfl rfl rfl rfl rfl (by first | assumption | (apply LDP.drew; assumption) | exact St.ld1 hs 0 rfl rfl | exact St.ldA hs 0 rfl rfl rfl | exact St.ld1 hs 1 rfl rfl | exact St.ldA hs 1 rfl rfl rfl | exact St.ld1 hs 2 rfl rfl | exact St.ldA hs 2 rfl rfl rfl | exact St.ld1 hs 3 rfl rfl | exact St.ldA hs 3 rfl rfl rfl | exact St.ld1 hs 4 rfl rfl | exact St.ldA hs 4 rfl rfl rfl | exact St.ld1 hs 5 rfl rfl | exact St.ldA hs 5 rfl rfl rfl | exact St.ld1 hs 6 rfl rfl | exact St.ldA hs 6 rfl rfl rfl) (by first | exact .inl rfl | exact .inr (fun h => h)) ?_
      refine EW.alloc (z := .agg #[.string ByteArray.empty, .string ByteArray.empty]) hs rfl rfl rfl rfl rfl (by kernel_rfl) ?_
      clear hs; intro b7 w hs; dsimp only [Value.cells] at hs
      refine EW.assign rfl rfl rfl rfl rfl rfl ?_
      first | refine EW.store hs 0 rfl rfl rfl rfl rfl rfl rfl rfl rfl (by simp [encL, Value.oneCell', Value.cells]) rfl (.inl rfl) ?_ | refine EW.store hs 1 rfl rfl rfl rfl rfl rfl rfl rfl rfl (by simp [encL, Value.oneCell', Value.cells]) rfl (.inl rfl) ?_ | refine EW.store hs 2 rfl rfl rfl rfl rfl rfl rfl rfl rfl (by simp [encL, Value.oneCell', Value.cells]) rfl (.inl rfl) ?_ | refine EW.store hs 3 rfl rfl rfl rfl rfl rfl rfl rfl rfl (by simp [encL, Value.oneCell', Value.cells]) rfl (.inl rfl) ?_ | refine EW.store hs 4 rfl rfl rfl rfl rfl rfl rfl rfl rfl (by simp [encL, Value.oneCell', Value.cells]) rfl (.inl rfl) ?_ | refine EW.store hs 5 rfl rfl rfl rfl rfl rfl rfl rfl rfl (by simp [encL, Value.oneCell', Value.cells]) rfl (.inl rfl) ?_ | refine EW.store hs 6 rfl rfl rfl rfl rfl rfl rfl rfl rfl (by simp [encL, Value.oneCell', Value.cells]) rfl (.inl rfl) ?_
      clear hs; intro w hs; dsimp only [List.set, setAt] at hs
      refine EW.done ?_
      refine NW.seq ?_
      refine CW.region (S := noS) [(0, .q), (1, .q), (2, .q), (3, .l)] rfl ?_
      refine EW.loadP rfl rfl rfl rfl rfl rfl (by first | assumption | (apply LDP.drew; assumption) | exact St.ld1 hs 0 rfl rfl | exact St.ldA hs 0 rfl rfl rfl | exact St.ld1 hs 1 rfl rfl | exact St.ldA hs 1 rfl rfl rfl | exact St.ld1 hs 2 rfl rfl | exact St.ldA hs 2 rfl rfl rfl | exact St.ld1 hs 3 rfl rfl | exact St.ldA hs 3 rfl rfl rfl | exact St.ld1 hs 4 rfl rfl | exact St.ldA hs 4 rfl rfl rfl | exact St.ld1 hs 5 rfl rfl | exact St.ldA hs 5 rfl rfl rfl | exact St.ld1 hs 6 rfl rfl | exact St.ldA hs 6 rfl rfl rfl) (by first | exact .inl rfl | exact .inr (fun h => h)) ?_
      refine EW.loadP rfl rfl rfl rfl rfl rfl (by first | assumption | (apply LDP.drew; assumption) | exact St.ld1 hs 0 rfl rfl | exact St.ldA hs 0 rfl rfl rfl | exact St.ld1 hs 1 rfl rfl | exact St.ldA hs 1 rfl rfl rfl | exact St.ld1 hs 2 rfl rfl | exact St.ldA hs 2 rfl rfl rfl | exact St.ld1 hs 3 rfl rfl | exact St.ldA hs 3 rfl rfl rfl | exact St.ld1 hs 4 rfl rfl | exact St.ldA hs 4 rfl rfl rfl | exact St.ld1 hs 5 rfl rfl | exact St.ldA hs 5 rfl rfl rfl | exact St.ld1 hs 6 rfl rfl | exact St.ldA hs 6 rfl rfl rfl) (by first | exact .inl rfl | exact .inr (fun h => h)) ?_
      refine EW.move rfl rfl rfl rfl rfl rfl ?_
      refine EW.mapUpdate hs 2 (K := KL) (a := nodes[k]) ht64 rfl rfl rfl rfl rfl rfl rfl rfl (.inl rfl) ?_
      clear hs; intro w hs; dsimp only [List.set] at hs
      rw [setM_pl nodes hnd k hlt] at hs
      refine EW.done ?_
      refine NW.blk ?_
      refine NW.seq ?_
      refine CW.region (S := noS) [(0, .q), (1, .q)] rfl ?_
      refine EW.bin rfl rfl rfl rfl rfl rfl rfl (BV.add (wrap_i64 (by omega) (by omega))) ?_
      refine EW.move rfl rfl rfl rfl rfl rfl ?_
      refine EW.done ?_
      refine NW.again (k + 1) (by first | assumption | (dsimp only; omega) | omega | (simp; omega)) (by repeat (first | exact trivial | (refine ⟨by first | rfl | (congr 2; omega) | (simp; done) | (congr 1; simp; done), ?_⟩))) ?_
      try dsimp only
      exact ⟨hlt, hs.tail⟩
    · refine CW.cond_f rfl (by simpa using hlt) ?_
      have hke2 : k = nodes.length := by omega
      subst hke2
      rw [List.take_length] at hs
      refine KW.exit ?_
      refine XW.seq ?_
      refine XW.inv ?_
      refine XW.blk ?_
      refine NW.seq ?_
      refine KW.seq ?_
      refine CW.region (S := noS) [(0, .q), (1, .q), (2, .q), (3, .q), (4, .q), (5, .l)] rfl ?_
      refine EW.move rfl rfl rfl rfl rfl rfl ?_
      refine EW.nilCheck rfl rfl rfl rfl rfl rfl ?_
      first | refine EW.fieldAddr rfl rfl rfl rfl rfl rfl ?_ | refine EW.fieldAddrA rfl rfl rfl rfl rfl rfl ?_
      refine EW.loadP rfl rfl rfl rfl rfl rfl (by first | assumption | (apply LDP.drew; assumption) | exact St.ld1 hs 0 rfl rfl | exact St.ldA hs 0 rfl rfl rfl | exact St.ld1 hs 1 rfl rfl | exact St.ldA hs 1 rfl rfl rfl | exact St.ld1 hs 2 rfl rfl | exact St.ldA hs 2 rfl rfl rfl | exact St.ld1 hs 3 rfl rfl | exact St.ldA hs 3 rfl rfl rfl | exact St.ld1 hs 4 rfl rfl | exact St.ldA hs 4 rfl rfl rfl | exact St.ld1 hs 5 rfl rfl | exact St.ldA hs 5 rfl rfl rfl | exact St.ld1 hs 6 rfl rfl | exact St.ldA hs 6 rfl rfl rfl) (by first | exact .inl rfl | exact .inr (fun h => h)) ?_
      refine EW.makeFunc (vs := [.pointer (some ⟨b5, 0, none⟩)]) rfl rfl rfl rfl rfl rfl ?_
      replace hs := hs.pick [3, 4, 0, 1, 2, 5] (by decide)
      simp only [List.filterMap_cons, List.filterMap_nil, List.getElem?_cons_succ, List.getElem?_cons_zero] at hs
      refine EW.callT3 hs 2 (SortP_spec _ Ap cp b5 b30 nodes parts (hs.sub 2) (hs.ld1 2 rfl rfl) (hs.res 3 rfl) (St.apartU hs 2 2 rfl rfl b5 rfl) (St.apartU hs 2 3 rfl rfl b30 rfl) (fun p hp => (hgood p hp).1) (fun p hp => (hgood p hp).2) hnlen hpl) rfl rfl rfl rfl rfl Tryz.func31 bd31 nm31 rfl (by first | exact .inl rfl | exact .inr (fun b h => h) | exact .inr (fun b h => ‹∀ b, _ → _› b h)) ?_
      clear hs; intro v50 w H'50 hs hst50 hp50
      obtain ⟨qs, rfl, hqp, hqo⟩ := hp50
      clear hst50
      try simp only [List.cons_append, List.nil_append, List.drop_succ_cons, List.drop_zero] at hs
      refine EW.done ?_
      refine NW.seq ?_
      refine KW.seq ?_
      refine CW.region (S := noS) [(0, .q), (1, .q), (2, .q), (3, .q), (4, .q)] rfl ?_
      refine EW.move rfl rfl rfl rfl rfl rfl ?_
      refine EW.nilCheck rfl rfl rfl rfl rfl rfl ?_
      first | refine EW.fieldAddr rfl rfl rfl rfl rfl rfl ?_ | refine EW.fieldAddrA rfl rfl rfl rfl rfl rfl ?_
      refine EW.loadP rfl rfl rfl rfl rfl rfl (by first | assumption | (apply LDP.drew; assumption) | exact St.ld1 hs 0 rfl rfl | exact St.ldA hs 0 rfl rfl rfl | exact St.ld1 hs 1 rfl rfl | exact St.ldA hs 1 rfl rfl rfl | exact St.ld1 hs 2 rfl rfl | exact St.ldA hs 2 rfl rfl rfl | exact St.ld1 hs 3 rfl rfl | exact St.ldA hs 3 rfl rfl rfl | exact St.ld1 hs 4 rfl rfl | exact St.ldA hs 4 rfl rfl rfl | exact St.ld1 hs 5 rfl rfl | exact St.ldA hs 5 rfl rfl rfl | exact St.ld1 hs 6 rfl rfl | exact St.ldA hs 6 rfl rfl rfl) (by first | exact .inl rfl | exact .inr (fun h => h)) ?_
      refine EW.assign rfl rfl rfl rfl rfl rfl ?_
      refine EW.done ?_
      refine NW.seq ?_
      refine KW.ret1 rfl rfl ?_
      refine ⟨_, rfl, hs.keep, ?_⟩
      refine ⟨qs.map (·.2), parts_of_walk hso hnm hwf hI1 hvis ?_ ?_, qs, rfl, ?_⟩
      · have := hqp.map (fun (q : SV × List Lab) => q.2)
        rw [show parts.map (fun (q : SV × List Lab) => q.2) = t1.parts.map (labsAt nodes) from hW1.parts] at this
        exact this
      · rw [List.pairwise_map]; exact hqo
      · have := hs.pick [0, 1] (by decide)
        rw [hqp.length_eq] at this
        exact this
end Go.Cw.Tryz
set_option linter.unusedVariables false
set_option linter.unusedSimpArgs false
namespace Go.Cw.Tryz
open Go.Proofs Go.Cw Go.Shelf Go.Sort
attribute [local irreducible] Go.Addr.add
theorem First_spec (w0 : World) (b mb : Nat) (qs : List PE) (g : RG) (hg : PGA w0 b mb qs) (hp : IsPG qs g) (hok : g.Ok) (hbig : g.Big 100000) (hnl : g.N.length ≤ 100000) (hsm : ∀ a ∈ g.N, Cw.Sm a) (hgl : GL w0) :
    T1 Tryz.prog 9 [.pointer (some ⟨b, 0, none⟩)] w0 fun v w' => ∃ xss, IsParts g.N g.E xss ∧ FirstPost w0 (firstC g.E xss) v w' := by
  refine KW.enterT1 (n := 29) Tryz.func9 rfl rfl rfl ?_
  have hs := St.init w0 noS
  have hel := hbig.e
  refine KW.seq ?_
  refine CW.region (S := noS) [(0, .q), (1, .q)] rfl ?_
  refine EW.assign rfl rfl rfl rfl rfl rfl ?_
  refine EW.assign rfl rfl rfl rfl rfl rfl ?_
  refine EW.done ?_
  refine NW.seq ?_
  refine KW.seq ?_
  refine KW.seq ?_
  refine CW.region (S := noS) [(0, .q), (1, .l), (2, .q), (3, .q)] rfl ?_
  refine EW.move rfl rfl rfl rfl rfl rfl ?_
  refine EW.callT1 (Parts_spec _ b mb qs g (hg.stay hs.keep) hp hok hbig hnl hsm (hgl.stay hs.keep)) rfl rfl rfl rfl rfl Tryz.func8 bd8 nm8 rfl ?_
  intro v7 w hk7 hp7
  obtain ⟨xss, hip, ps, rfl, hst⟩ := hp7
  replace hs := hs.plus hst
  simp only [List.cons_append, List.nil_append] at hs
  obtain ⟨A7, c7, rfl, _⟩ := own_sl (hs.res 0 rfl)
  have hpl : ps.length ≤ 100000 := by
    have h1 : (ps.map (·.2)).length ≤ g.N.length := by
      have h2 := nodup_sub_len ((ps.map (·.2)).filterMap List.head?) g.N (by
        rw [List.Nodup, List.pairwise_filterMap]
        refine hip.order.imp ?_
        intro p q h a ha b hb e
        subst e
        have := h a ha a hb
        rw [lt_irrefl] at this; cases this) (fun a ha => by
        obtain ⟨p, hp, hpa⟩ := List.mem_filterMap.1 ha
        refine (hip.all a).2 ⟨p, hp, ?_⟩
        cases p with
        | nil => simp at hpa
        | cons y t => simp at hpa; subst hpa; simp)
      have h3 : ((ps.map (·.2)).filterMap List.head?).length = (ps.map (·.2)).length := by
        have : ∀ l : List (List Lab), (∀ p ∈ l, p ≠ []) → (l.filterMap List.head?).length = l.length := by
          intro l
          induction l with
          | nil => simp
          | cons p r ih =>
            intro h
            cases p with
            | nil => exact absurd rfl (h [] (by simp))
            | cons y t => simp [List.filterMap_cons, ih fun q hq => h q (by simp [hq])]
        exact this _ hip.ne
      omega
    simpa using Nat.le_trans h1 hnl
  have hml : (ps.map (·.1)).length = ps.length := by simp
  rw [hml] at hs ⊢
  refine EW.len rfl rfl rfl rfl rfl rfl ?_
  refine EW.move rfl rfl rfl rfl rfl rfl ?_
  refine EW.done ?_
  refine NW.seq ?_
  refine KW.block ?_
  refine KW.loop (ι := Nat) (fun k => ps.length - k) (fun k => [(0, .pointer (some ⟨b, 0, none⟩)), (7, .slice A7 ps.length c7), (8, .int .i64 (ps.length : Int)), (9, .int .i64 (k : Int))]) (fun k w => k ≤ ps.length ∧ (∀ p ∈ (ps.map (·.2)).take k, holdsC g.E p = false) ∧ St w0 noS w [own elP (.slice A7 ps.length c7) (ps.map (·.1)), rows elL ps]) 0 (by repeat (first | exact trivial | (refine ⟨by first | rfl | (congr 2; omega) | (simp; done) | (congr 1; simp; done), ?_⟩))) ?_ ?_
  · exact ⟨Nat.zero_le _, by simp, hs⟩
  clear hs
  rintro k w ⟨hk, hno, hs⟩
  refine KW.seq ?_
  refine CW.region (S := noS) [(0, .q)] rfl ?_
  refine EW.bin rfl rfl rfl rfl rfl rfl rfl BV.lss ?_
  refine EW.done ?_
  refine NW.seq ?_
  refine KW.seq ?_
  by_cases hlt : k < ps.length
  · refine CW.cond_t rfl (by simpa using hlt) ?_
    obtain ⟨ao, rfl, _, hld⟩ := (hs.sl 0 rfl).at_ (i := k) (by rw [hml]; exact hlt)
    obtain ⟨⟨⟨Ai, ni, ci⟩, pk⟩, hpk⟩ : ∃ p, ps[k]? = some p := ⟨ps[k], by simp⟩
    obtain ⟨hsli, hni, hci⟩ := hs.rowSl 1 rfl hpk
    dsimp only at hsli hni hci
    subst hni
    have hpm : pk ∈ ps.map (·.2) := List.mem_map.2 ⟨_, List.mem_of_getElem? hpk, rfl⟩
    have hne : pk ≠ [] := hip.ne pk hpm
    obtain ⟨x, hx⟩ : ∃ x, pk[0]? = some x := by
      cases hpe : pk with
      | nil => exact absurd hpe hne
      | cons y t => exact ⟨y, by simp⟩
    have hpos : 0 < pk.length := List.length_pos_iff.2 hne
    obtain ⟨ai, rfl, _, hldi⟩ := hsli.at_ hpos
    have hxm : x ∈ pk := List.mem_of_getElem? hx
    have htk : (ps.map (·.2)).take (k + 1) = (ps.map (·.2)).take k ++ [pk] := by
      rw [List.take_add_one, List.getElem?_map, hpk]; rfl
    have hfind : holdsC g.E pk = true → firstC g.E (ps.map (·.2)) = (pk, true) := fun h => by
      have e : ps.map (·.2) = (ps.map (·.2)).take k ++ pk :: (ps.map (·.2)).drop (k + 1) := by
        have h := (List.take_append_drop (k + 1) (ps.map (·.2))).symm
        rw [htk, List.append_assoc] at h
        exact h
      unfold firstC
      rw [e, List.find?_append, List.find?_eq_none.2 (fun p hp => by simp [hno p hp])]
      simp [h]
    have g1 : LDP Tryz.prog w 30 (ao.add ((k : Int).toNat * 1)) (.slice (some ai) pk.length ci) := hld k (some ai, pk.length, ci) (by rw [List.getElem?_map, hpk]; rfl)
    have g2 : LDP Tryz.prog w 44 (ai.add ((0 : Int).toNat * 2)) (encL x) := hldi 0 x hx
    have hhc : holdsC g.E pk = (decide (1 < pk.length) || decide ((x, x) ∈ g.E)) := by
      unfold holdsC
      cases pk with
      | nil => exact absurd rfl hne
      | cons y t => simp at hx; subst hx; rfl
    refine KW.skip ?_
    refine NW.seq ?_
    refine KW.seq ?_
    refine KW.block ?_
    refine KW.seq ?_
    refine CW.region (S := noS) [(0, .q), (1, .q), (2, .q)] rfl ?_
    refine EW.indexAddr rfl rfl rfl rfl rfl rfl rfl (by omega) (by omega) ?_
    refine EW.loadP rfl rfl rfl rfl rfl rfl (by first | assumption | (apply LDP.drew; assumption) | exact St.ld1 hs 0 rfl rfl | exact St.ldA hs 0 rfl rfl rfl | exact St.ld1 hs 1 rfl rfl | exact St.ldA hs 1 rfl rfl rfl | exact St.ld1 hs 2 rfl rfl | exact St.ldA hs 2 rfl rfl rfl | exact St.ld1 hs 3 rfl rfl | exact St.ldA hs 3 rfl rfl rfl | exact St.ld1 hs 4 rfl rfl | exact St.ldA hs 4 rfl rfl rfl | exact St.ld1 hs 5 rfl rfl | exact St.ldA hs 5 rfl rfl rfl | exact St.ld1 hs 6 rfl rfl | exact St.ldA hs 6 rfl rfl rfl) (by first | exact .inl rfl | exact .inr (fun h => h)) ?_
    refine EW.assign rfl rfl rfl rfl rfl rfl ?_
    refine EW.done ?_
    refine NW.seq ?_
    refine KW.seq ?_
    refine CW.regionD (noS) [(0, .q), (1, .q), (2, .q), (3, .q), (4, .q), (5, .q), (6, .q), (7, .q), (9, .q), (10, .q), (11, .q), (8, .l), (12, .l), (13, .q)] mixed (by kernel_rfl) ?_
    replace hs := hs.drew
    refine EW.move rfl rfl rfl rfl rfl rfl ?_
    refine EW.len rfl rfl rfl rfl rfl rfl ?_
    refine EW.bin rfl rfl rfl rfl rfl rfl rfl BV.gtr ?_
    refine EW.move rfl rfl rfl rfl rfl rfl ?_
    refine EW.caseB (fun h1 => ?_) (fun h1 => ?_)
    · skip
      have h1' : 1 < pk.length := by simp at h1; omega
      refine EW.off rfl rfl rfl rfl ?_
      refine EW.off rfl rfl rfl rfl ?_
      refine EW.off rfl rfl rfl rfl ?_
      refine EW.off rfl rfl rfl rfl ?_
      refine EW.off rfl rfl rfl rfl ?_
      refine EW.off rfl rfl rfl rfl ?_
      refine EW.off rfl rfl rfl rfl ?_
      refine EW.off rfl rfl rfl rfl ?_
      refine EW.off rfl rfl rfl rfl ?_
      refine EW.pick rfl rfl rfl rfl rfl rfl rfl ?_
      refine EW.done ?_
      refine NW.seq ?_
      refine CW.cond_t rfl (rfl) ?_
      refine KW.seq ?_
      refine CW.region (S := noS) [(0, .q), (1, .q), (2, .q)] rfl ?_
      refine EW.move rfl rfl rfl rfl rfl rfl ?_
      refine EW.assign rfl rfl rfl rfl rfl rfl ?_
      refine EW.assign rfl rfl rfl rfl rfl rfl ?_
      refine EW.done ?_
      refine NW.seq ?_
      refine KW.ret2 rfl rfl rfl ?_
      refine ⟨_, rfl, hs.keep, ?_⟩
      refine ⟨_, hip, ?_⟩
      rw [hfind (by rw [hhc]; simp [h1'])]
      exact ⟨(some ai, pk.length, ci), rfl, (hs.pick [1] (by decide)).rowOut hpk⟩
    · skip
      have h1' : ¬ 1 < pk.length := by simp at h1; omega
      have hol : (risingL (outOf g.E x)).length ≤ 1000000 := Nat.le_trans (length_risingL _) (Nat.le_trans (outOf_len _ _) (Nat.le_trans hel (by decide)))
      refine EW.move rfl rfl rfl rfl rfl rfl ?_
      refine EW.move rfl rfl rfl rfl rfl rfl ?_
      refine EW.indexAddr rfl rfl rfl rfl rfl rfl rfl (by omega) (by omega) ?_
      refine EW.loadP rfl rfl rfl rfl rfl rfl (by first | assumption | (apply LDP.drew; assumption) | exact St.ld1 hs 0 rfl rfl | exact St.ldA hs 0 rfl rfl rfl | exact St.ld1 hs 1 rfl rfl | exact St.ldA hs 1 rfl rfl rfl | exact St.ld1 hs 2 rfl rfl | exact St.ldA hs 2 rfl rfl rfl | exact St.ld1 hs 3 rfl rfl | exact St.ldA hs 3 rfl rfl rfl | exact St.ld1 hs 4 rfl rfl | exact St.ldA hs 4 rfl rfl rfl | exact St.ld1 hs 5 rfl rfl | exact St.ldA hs 5 rfl rfl rfl | exact St.ld1 hs 6 rfl rfl | exact St.ldA hs 6 rfl rfl rfl) (by first | exact .inl rfl | exact .inr (fun h => h)) ?_
      refine EW.move rfl rfl rfl rfl rfl rfl ?_
      refine EW.indexAddr rfl rfl rfl rfl rfl rfl rfl (by omega) (by omega) ?_
      refine EW.loadP rfl rfl rfl rfl rfl rfl (by first | assumption | (apply LDP.drew; assumption) | exact St.ld1 hs 0 rfl rfl | exact St.ldA hs 0 rfl rfl rfl | exact St.ld1 hs 1 rfl rfl | exact St.ldA hs 1 rfl rfl rfl | exact St.ld1 hs 2 rfl rfl | exact St.ldA hs 2 rfl rfl rfl | exact St.ld1 hs 3 rfl rfl | exact St.ldA hs 3 rfl rfl rfl | exact St.ld1 hs 4 rfl rfl | exact St.ldA hs 4 rfl rfl rfl | exact St.ld1 hs 5 rfl rfl | exact St.ldA hs 5 rfl rfl rfl | exact St.ld1 hs 6 rfl rfl | exact St.ldA hs 6 rfl rfl rfl) (by first | exact .inl rfl | exact .inr (fun h => h)) ?_
      refine EW.callT1 (Out_spec _ b mb qs g x (hg.stay hs.keep) hp hok hel) rfl rfl rfl rfl rfl Tryz.func16 bd16 nm16 rfl ?_
      intro v21 w hk21 hp21
      replace hs := hs.plus (hp21.st hk21)
      simp only [List.cons_append, List.nil_append] at hs
      obtain ⟨A21, c21, rfl, _⟩ := own_sl (hs.res 0 rfl)
      refine EW.callT1 (ContainsL_spec _ _ _ _ _ (hs.sl 0 rfl) (by omega)) rfl rfl rfl rfl rfl Tryz.func33 bd33 nm33 rfl ?_
      intro v25 w hk25 hp25
      subst hp25
      replace hs := hs.stay hk25
      refine EW.pick rfl rfl rfl rfl rfl rfl rfl ?_
      refine EW.done ?_
      refine NW.seq ?_
      have hmemx : x ∈ risingL (outOf g.E x) ↔ (x, x) ∈ g.E := by rw [(rising_spec _).2, outOf_mem]
      refine KW.cond rfl (fun h2 => ?_) (fun h2 => ?_)
      · skip
        have h2' : (x, x) ∈ g.E := hmemx.1 (by simpa using h2)
        obtain ⟨ao', hao', _, hld'⟩ := (hs.sl 1 rfl).at_ (i := k) (by rw [hml]; exact hlt)
        injection hao' with hao'; subst hao'
        have g3 : LDP Tryz.prog _ 30 (ao.add ((k : Int).toNat * 1)) (.slice (some ai) pk.length ci) := hld' k (some ai, pk.length, ci) (by rw [List.getElem?_map, hpk]; rfl)
        refine KW.seq ?_
        refine CW.region (S := noS) [(0, .q), (1, .q), (2, .q)] rfl ?_
        refine EW.move rfl rfl rfl rfl rfl rfl ?_
        refine EW.assign rfl rfl rfl rfl rfl rfl ?_
        refine EW.assign rfl rfl rfl rfl rfl rfl ?_
        refine EW.done ?_
        refine NW.seq ?_
        refine KW.ret2 rfl rfl rfl ?_
        refine ⟨_, rfl, hs.keep, ?_⟩
        refine ⟨_, hip, ?_⟩
        rw [hfind (by rw [hhc]; simp [h2'])]
        exact ⟨(some ai, pk.length, ci), rfl, (hs.pick [2] (by decide)).rowOut hpk⟩
      · skip
        have h2' : (x, x) ∉ g.E := fun h => by rw [decide_eq_true (hmemx.2 h)] at h2; cases h2
        refine KW.skip ?_
        refine NW.blk ?_
        refine NW.seq ?_
        refine CW.region (S := noS) [(0, .q), (1, .q)] rfl ?_
        refine EW.bin rfl rfl rfl rfl rfl rfl rfl (BV.add (wrap_i64 (by omega) (by omega))) ?_
        refine EW.move rfl rfl rfl rfl rfl rfl ?_
        refine EW.done ?_
        refine NW.again (k + 1) (by first | assumption | (dsimp only; omega) | omega | (simp; omega)) (by repeat (first | exact trivial | (refine ⟨by first | rfl | (congr 2; omega) | (simp; done) | (congr 1; simp; done), ?_⟩))) ?_
        try dsimp only
        refine ⟨hlt, fun p hp => ?_, hs.pick [1, 2] (by decide)⟩
        rw [htk] at hp
        rcases List.mem_append.1 hp with h | h
        · exact hno p h
        · rw [List.mem_singleton.1 h, hhc]; simp [h1', h2']
  · refine CW.cond_f rfl (by simpa using hlt) ?_
    have hk' : k = ps.length := by omega
    subst hk'
    rw [List.take_of_length_le (by simp)] at hno
    refine KW.exit ?_
    refine XW.seq ?_
    refine XW.inv ?_
    refine XW.blk ?_
    refine NW.seq ?_
    refine KW.seq ?_
    refine CW.region (S := noS) [(0, .q), (1, .q)] rfl ?_
    refine EW.assign rfl rfl rfl rfl rfl rfl ?_
    refine EW.assign rfl rfl rfl rfl rfl rfl ?_
    refine EW.done ?_
    refine NW.seq ?_
    refine KW.ret2 rfl rfl rfl ?_
    refine ⟨_, rfl, hs.keep, ?_⟩
    refine ⟨_, hip, ?_⟩
    have : firstC g.E (ps.map (·.2)) = ([], false) := by
      unfold firstC
      rw [List.find?_eq_none.2 (fun p hp => by simp [hno p hp])]
    rw [this]
    exact ⟨(none, 0, 0), rfl, (hs.nil elL).pick [0] (by decide)⟩
end Go.Cw.Tryz
set_option linter.unusedVariables false
set_option linter.unusedSimpArgs false
namespace Go.Cw.Tryz
open Go.Proofs Go.Cw Go.Shelf Go.Sort
attribute [local irreducible] Go.Addr.add
/-- An edge of the law's input. -/
abbrev Edi := Lab × Lab × Bool
def encD (x : Edi) : Value := .agg #[.string x.1.pkg, .string x.1.nm, .string x.2.1.pkg, .string x.2.1.nm, .bool x.2.2]
def elD : El Tryz.prog Edi := {
  ty := 55
  size := 5
  bytes := 72
  enc := encD
  zero := .agg #[.string ByteArray.empty, .string ByteArray.empty, .string ByteArray.empty, .string ByteArray.empty, .bool false]
  info := by kernel_rfl
  zsize := rfl
  pos := by decide
  posb := by decide
  cells := fun _ => rfl
  one := fun x u hu => by
    simp only [Value.cells, encD, List.mem_cons, List.not_mem_nil, or_false] at hu
    rcases hu with rfl | rfl | rfl | rfl | rfl <;> rfl
  ld := fun w p x h => LD.many (cs := [.string x.1.pkg, .string x.1.nm, .string x.2.1.pkg, .string x.2.1.nm, .bool x.2.2]) rfl h }
def elBo : El Tryz.prog Bool := {
  ty := 4
  size := 1
  bytes := 1
  enc := fun x => .bool x
  zero := .bool false
  info := by kernel_rfl
  zsize := rfl
  pos := by decide
  posb := by decide
  cells := fun _ => rfl
  one := fun x u hu => by
    obtain rfl : u = .bool x := by simpa [Value.cells] using hu
    rfl
  ld := fun w p x h => LD.one (by simpa [Addr.add] using h 0 (.bool x) rfl) }
theorem edi_ld {w : World} {ad : Addr} {xs : List Edi} (h : SlA elD w (some ad) xs) {k : Nat} {x : Edi} (hk : xs[k]? = some x) :
    LDP Tryz.prog w 44 ((ad.add (((k : Nat) : Int).toNat * 5)).add 0) (encL x.1) ∧ LDP Tryz.prog w 44 ((ad.add (((k : Nat) : Int).toNat * 5)).add 2) (encL x.2.1) ∧ LDP Tryz.prog w 4 ((ad.add (((k : Nat) : Int).toNat * 5)).add 4) (.bool x.2.2) := by
  refine ⟨h.at_part (E' := elL) hk 0 x.1 (fun i u hu => ?_) rfl, h.at_part (E' := elL) hk 2 x.2.1 (fun i u hu => ?_) rfl, h.at_part (E' := elBo) hk 4 x.2.2 (fun i u hu => ?_) rfl⟩
  · match i, hu with
    | 0, hu => exact hu
    | 1, hu => exact hu
    | i + 2, hu => simp [elL, encL, Value.cells] at hu
  · match i, hu with
    | 0, hu => exact hu
    | 1, hu => exact hu
    | i + 2, hu => simp [elL, encL, Value.cells] at hu
  · match i, hu with
    | 0, hu => exact hu
    | i + 1, hu => simp [elBo, Value.cells] at hu
def RG.take1 (g : RG) (x : Edi) : RG := if x.2.2 = true then g.node x.1 else g.edge x.1 x.2.1
def madeG (xs : List Edi) : RG := xs.foldl RG.take1 ⟨[], []⟩
theorem madeG_snoc (xs : List Edi) (x : Edi) : madeG (xs ++ [x]) = (madeG xs).take1 x := by simp [madeG]
def SmD (x : Edi) : Prop := Cw.Sm x.1 ∧ Cw.Sm x.2.1
theorem RG.edge_sm {g : RG} {a x : Lab} {k : Nat} (h : g.Sm k) (ha : Cw.Sm a) (hx : Cw.Sm x) : (g.edge a x).Sm (k + 2) := by
  have h2 := RG.node_sm (RG.node_sm h ha) hx
  rw [RG.edge_eq]
  split
  · exact h2
  · exact ⟨h2.n, by simp [h.e]; have := h.e; omega, h2.nm, fun e he => by
      rcases List.mem_append.1 he with he | he
      · exact h.em e he
      · rw [List.mem_singleton.1 he]; exact ⟨ha, hx⟩⟩
theorem take1_sm {g : RG} {x : Edi} {k : Nat} (h : g.Sm k) (hx : SmD x) : (g.take1 x).Sm (k + 2) := by
  unfold RG.take1
  split
  · exact (RG.node_sm h hx.1).mono (by omega)
  · exact RG.edge_sm h hx.1 hx.2
theorem take1_ok {g : RG} {x : Edi} (h : g.Ok) : (g.take1 x).Ok := by
  unfold RG.take1
  split
  · exact h.node _
  · exact h.edge _ _
theorem madeG_good (xs : List Edi) (h : ∀ x ∈ xs, SmD x) : (madeG xs).Ok ∧ (madeG xs).Sm (2 * xs.length) := by
  have gen : ∀ (xs : List Edi) (g : RG) (k : Nat), g.Ok → g.Sm k → (∀ x ∈ xs, SmD x) → (xs.foldl RG.take1 g).Ok ∧ (xs.foldl RG.take1 g).Sm (k + 2 * xs.length) := by
    intro xs
    induction xs with
    | nil => intro g k h1 h2 _; exact ⟨h1, h2⟩
    | cons x r ih =>
      intro g k h1 h2 h3
      obtain ⟨h4, h5⟩ := ih (g.take1 x) (k + 2) (take1_ok h1) (take1_sm h2 (h3 x (by simp))) (fun y hy => h3 y (by simp [hy]))
      refine ⟨h4, h5.mono ?_⟩
      simp only [List.length_cons]; omega
  obtain ⟨h1, h2⟩ := gen xs ⟨[], []⟩ 0 ⟨List.nodup_nil, by simp, by simp⟩ ⟨by simp, by simp, by simp, by simp⟩ h
  rw [Nat.zero_add] at h2
  exact ⟨h1, h2⟩
theorem RG.Sm.big {g : RG} {k : Nat} (h : g.Sm k) (hk : k ≤ 100000) : g.Big 100000 := ⟨Nat.le_trans h.e hk, h.em⟩
/-- The two graphs. -/
def MadePost (w0 : World) (g : RG) (v : Value) (w' : World) : Prop := ∃ b mb ps b2 vN vE, v = .tuple #[.pointer (some ⟨b, 0, none⟩), .pointer (some ⟨b2, 0, none⟩)] ∧ IsPG ps g ∧ St w0 noS w' (pgR b mb ps ++ rgR b2 vN vE g)
theorem made_spec (w0 : World) (A : Option Addr) (c : Nat) (xs : List Edi) (hx : SlA elD w0 A xs) (hl : xs.length ≤ 10000000) (hsm : ∀ x ∈ xs, SmD x) (hgl : GL w0) :
    T1 Tryz.prog 7 [.slice A xs.length c] w0 (MadePost w0 (madeG (xs.take 60))) := by
  refine KW.enterT1 (n := 67) Tryz.func7 rfl rfl rfl ?_
  have hs := St.init w0 noS
  refine KW.seq ?_
  refine CW.region (S := noS) [(0, .q), (1, .q)] rfl ?_
  refine EW.assign rfl rfl rfl rfl rfl rfl ?_
  refine EW.assign rfl rfl rfl rfl rfl rfl ?_
  refine EW.done ?_
  refine NW.seq ?_
  refine KW.seq ?_
  refine CW.region (S := noS) [(0, .l), (1, .q), (2, .l), (3, .q), (4, .q)] rfl ?_
  refine EW.callT1 (New_spec _) rfl rfl rfl rfl rfl Tryz.func18 bd18 nm18 rfl ?_
  intro v7 w hk7 hp7
  obtain ⟨b, mb, rfl, hst⟩ := hp7
  replace hs := hs.plus hst
  clear hst
  refine EW.build (α := Unit) (pv := []) rfl rfl rfl rfl rfl rfl rfl build41 ?_
  refine EW.box hs rfl rfl rfl rfl rfl rfl ?_
  clear hs; intro b9 w hs
  refine EW.assign rfl rfl rfl rfl rfl rfl ?_
  refine EW.assign rfl rfl rfl rfl rfl rfl ?_
  refine EW.done ?_
  refine NW.seq ?_
  refine KW.seq ?_
  refine KW.seq ?_
  refine CW.region (S := noS) [(0, .q), (1, .q)] rfl ?_
  refine EW.move rfl rfl rfl rfl rfl rfl ?_
  refine EW.bin rfl rfl rfl rfl rfl rfl rfl BV.ptr_eqnil ?_
  refine EW.done ?_
  refine NW.seq ?_
  replace hs := ((hs.nil elL).nil elE)
  replace hs : St w0 noS w (pgR b mb [] ++ rgR b9 (.slice none 0 0) (.slice none 0 0) ⟨[], []⟩) := hs.pick [3, 4, 5, 2, 1, 0] (by decide)
  refine CW.cond_f rfl (rfl) ?_
  refine KW.skip ?_
  refine NW.seq ?_
  refine KW.seq ?_
  refine KW.seq ?_
  refine CW.region (S := noS) [(0, .q)] rfl ?_
  refine EW.assign rfl rfl rfl rfl rfl rfl ?_
  refine EW.done ?_
  refine NW.seq ?_
  refine KW.block ?_
  refine KW.loop (ι := Nat × List PE × Value × Value) (fun i => 60 - i.1) (fun i => [(0, .slice A xs.length c), (4, .pointer (some ⟨b, 0, none⟩)), (5, .pointer (some ⟨b9, 0, none⟩)), (6, .int .i64 (i.1 : Int))]) (fun i w => i.1 ≤ xs.length ∧ i.1 ≤ 60 ∧ IsPG i.2.1 (madeG (xs.take i.1)) ∧ St w0 noS w (pgR b mb i.2.1 ++ rgR b9 i.2.2.1 i.2.2.2 (madeG (xs.take i.1)))) (0, [], .slice none 0 0, .slice none 0 0) (by repeat (first | exact trivial | (refine ⟨by first | rfl | (congr 2; omega) | (simp; done) | (congr 1; simp; done), ?_⟩))) ?_ ?_
  · exact ⟨Nat.zero_le _, Nat.zero_le _, ⟨rfl, by simp⟩, hs⟩
  clear hs
  rintro ⟨k, ps, vN, vE⟩ w ⟨hk, hk60, hps, hs⟩
  dsimp only at hk hk60 hps hs
  refine KW.seq ?_
  refine KW.seq ?_
  refine CW.region (S := noS) [(0, .q), (1, .q), (2, .q), (3, .q), (4, .q), (5, .q), (6, .q), (7, .q)] rfl ?_
  refine EW.move rfl rfl rfl rfl rfl rfl ?_
  refine EW.move rfl rfl rfl rfl rfl rfl ?_
  refine EW.len rfl rfl rfl rfl rfl rfl ?_
  refine EW.bin rfl rfl rfl rfl rfl rfl rfl BV.lss ?_
  refine EW.move rfl rfl rfl rfl rfl rfl ?_
  have hfin : ∀ {w : World} {ps : List PE} {vN vE : Value}, ¬ (k < xs.length ∧ k < 60) → IsPG ps (madeG (xs.take k)) → St w0 noS w (pgR b mb ps ++ rgR b9 vN vE (madeG (xs.take k))) → MadePost w0 (madeG (xs.take 60)) (.tuple #[.pointer (some ⟨b, 0, none⟩), .pointer (some ⟨b9, 0, none⟩)]) w := fun {w ps vN vE} hno h1 h2 => by
    have e : xs.take 60 = xs.take k := by
      by_cases h : k = 60
      · rw [h]
      · have : k = xs.length := by omega
        rw [this, List.take_length, List.take_of_length_le (by omega)]
    rw [e]
    exact ⟨b, mb, ps, b9, vN, vE, rfl, h1, h2⟩
  refine EW.caseB (fun h1 => ?_) (fun h1 => ?_)
  · skip
    refine EW.move rfl rfl rfl rfl rfl rfl ?_
    refine EW.bin rfl rfl rfl rfl rfl rfl rfl BV.lss ?_
    refine EW.pick rfl rfl rfl rfl rfl rfl rfl ?_
    refine EW.done ?_
    refine NW.seq ?_
    have h1' : k < xs.length := by simpa using h1
    by_cases h60 : k < 60
    · refine CW.cond_t rfl (by simpa using (by omega : ((k : Nat) : Int) < 60)) ?_
      obtain ⟨x, hxk⟩ : ∃ x, xs[k]? = some x := ⟨_, List.getElem?_eq_getElem h1'⟩
      have hxm : SmD x := hsm x (List.mem_of_getElem? hxk)
      obtain ⟨ad, rfl, hadlt, _⟩ := hx.at_ h1'
      have g0 : ∀ w, Keep noS w0 w → LDP Tryz.prog w 44 ((ad.add (((k : Nat) : Int).toNat * 5)).add 0) (encL x.1) := fun w hkw => (edi_ld (hx.stay hkw) hxk).1
      have g2 : ∀ w, Keep noS w0 w → LDP Tryz.prog w 44 ((ad.add (((k : Nat) : Int).toNat * 5)).add 2) (encL x.2.1) := fun w hkw => (edi_ld (hx.stay hkw) hxk).2.1
      have g4 : ∀ w, Keep noS w0 w → LDP Tryz.prog w 4 ((ad.add (((k : Nat) : Int).toNat * 5)).add 4) (.bool x.2.2) := fun w hkw => (edi_ld (hx.stay hkw) hxk).2.2
      obtain ⟨hok, hgs⟩ := madeG_good (xs.take k) (fun y hy => hsm y (List.mem_of_mem_take hy))
      have htl : (xs.take k).length = k := by rw [List.length_take]; omega
      rw [htl] at hgs
      have hnext : madeG (xs.take (k + 1)) = (madeG (xs.take k)).take1 x := by
        rw [List.take_add_one, hxk]; exact madeG_snoc _ _
      refine KW.skip ?_
      refine NW.seq ?_
      refine KW.seq ?_
      refine KW.block ?_
      refine KW.seq ?_
      refine CW.region (S := noS) [(0, .q), (1, .q), (2, .q), (3, .q), (4, .q)] rfl ?_
      refine EW.move rfl rfl rfl rfl rfl rfl ?_
      refine EW.move rfl rfl rfl rfl rfl rfl ?_
      refine EW.indexAddr rfl rfl rfl rfl rfl rfl rfl (by omega) (by omega) ?_
      first | refine EW.fieldAddr rfl rfl rfl rfl rfl rfl ?_ | refine EW.fieldAddrA rfl rfl rfl rfl rfl rfl ?_
      refine EW.loadP rfl rfl rfl rfl rfl rfl (by first | with_reducible exact g0 _ hs.keep | with_reducible exact g2 _ hs.keep | with_reducible exact g4 _ hs.keep | assumption | (apply LDP.drew; assumption) | exact St.ld1 hs 0 rfl rfl | exact St.ldA hs 0 rfl rfl rfl | exact St.ld1 hs 1 rfl rfl | exact St.ldA hs 1 rfl rfl rfl | exact St.ld1 hs 2 rfl rfl | exact St.ldA hs 2 rfl rfl rfl | exact St.ld1 hs 3 rfl rfl | exact St.ldA hs 3 rfl rfl rfl | exact St.ld1 hs 4 rfl rfl | exact St.ldA hs 4 rfl rfl rfl | exact St.ld1 hs 5 rfl rfl | exact St.ldA hs 5 rfl rfl rfl | exact St.ld1 hs 6 rfl rfl | exact St.ldA hs 6 rfl rfl rfl) (by first | exact .inl rfl | exact .inr (fun h => h)) ?_
      refine EW.done ?_
      refine NW.seq ?_
      refine KW.cond rfl (fun h2 => ?_) (fun h2 => ?_)
      · skip
        have hn2 : madeG (xs.take (k + 1)) = (madeG (xs.take k)).node x.1 := by rw [hnext, RG.take1, if_pos h2]
        refine KW.seq ?_
        refine CW.region (S := noS) [(0, .q), (1, .q), (2, .q), (3, .q), (4, .q), (5, .q), (6, .l)] rfl ?_
        refine EW.move rfl rfl rfl rfl rfl rfl ?_
        refine EW.move rfl rfl rfl rfl rfl rfl ?_
        refine EW.move rfl rfl rfl rfl rfl rfl ?_
        refine EW.indexAddr rfl rfl rfl rfl rfl rfl rfl (by omega) (by omega) ?_
        first | refine EW.fieldAddr rfl rfl rfl rfl rfl rfl ?_ | refine EW.fieldAddrA rfl rfl rfl rfl rfl rfl ?_
        refine EW.loadP rfl rfl rfl rfl rfl rfl (by first | with_reducible exact g0 _ hs.keep | with_reducible exact g2 _ hs.keep | with_reducible exact g4 _ hs.keep | assumption | (apply LDP.drew; assumption) | exact St.ld1 hs 0 rfl rfl | exact St.ldA hs 0 rfl rfl rfl | exact St.ld1 hs 1 rfl rfl | exact St.ldA hs 1 rfl rfl rfl | exact St.ld1 hs 2 rfl rfl | exact St.ldA hs 2 rfl rfl rfl | exact St.ld1 hs 3 rfl rfl | exact St.ldA hs 3 rfl rfl rfl | exact St.ld1 hs 4 rfl rfl | exact St.ldA hs 4 rfl rfl rfl | exact St.ld1 hs 5 rfl rfl | exact St.ldA hs 5 rfl rfl rfl | exact St.ld1 hs 6 rfl rfl | exact St.ldA hs 6 rfl rfl rfl) (by first | exact .inl rfl | exact .inr (fun h => h)) ?_
        refine EW.callT3 hs 3 (Node_spec _ b mb ps _ x.1 (hs.sub 3) hps hok) rfl rfl rfl rfl rfl Tryz.func26 bd26 nm26 rfl (by first | exact .inl rfl | exact .inr (fun b h => h) | exact .inr (fun b h => ‹∀ b, _ → _› b h)) ?_
        clear hs; intro v33 w H'33 hs hst33 hp33
        obtain ⟨ps2, rfl, hps2⟩ := hp33
        clear hst33
        try simp only [List.cons_append, List.nil_append, List.drop_succ_cons, List.drop_zero] at hs
        replace hs : St w0 noS w (rgR b9 vN vE (madeG (xs.take k)) ++ pgR b mb ps2) := hs.pick [3, 4, 5, 0, 1, 2] (by decide)
        refine EW.done ?_
        refine NW.seq ?_
        refine CW.region (S := noS) [(0, .q), (1, .q), (2, .q), (3, .q), (4, .q), (5, .q), (6, .l)] rfl ?_
        refine EW.move rfl rfl rfl rfl rfl rfl ?_
        refine EW.move rfl rfl rfl rfl rfl rfl ?_
        refine EW.move rfl rfl rfl rfl rfl rfl ?_
        refine EW.indexAddr rfl rfl rfl rfl rfl rfl rfl (by omega) (by omega) ?_
        first | refine EW.fieldAddr rfl rfl rfl rfl rfl rfl ?_ | refine EW.fieldAddrA rfl rfl rfl rfl rfl rfl ?_
        refine EW.loadP rfl rfl rfl rfl rfl rfl (by first | with_reducible exact g0 _ hs.keep | with_reducible exact g2 _ hs.keep | with_reducible exact g4 _ hs.keep | assumption | (apply LDP.drew; assumption) | exact St.ld1 hs 0 rfl rfl | exact St.ldA hs 0 rfl rfl rfl | exact St.ld1 hs 1 rfl rfl | exact St.ldA hs 1 rfl rfl rfl | exact St.ld1 hs 2 rfl rfl | exact St.ldA hs 2 rfl rfl rfl | exact St.ld1 hs 3 rfl rfl | exact St.ldA hs 3 rfl rfl rfl | exact St.ld1 hs 4 rfl rfl | exact St.ldA hs 4 rfl rfl rfl | exact St.ld1 hs 5 rfl rfl | exact St.ldA hs 5 rfl rfl rfl | exact St.ld1 hs 6 rfl rfl | exact St.ldA hs 6 rfl rfl rfl) (by first | exact .inl rfl | exact .inr (fun h => h)) ?_
        refine EW.callT3 hs 3 (RNode_spec _ b9 vN vE _ x.1 (hs.sub 3) (hgs.mono (by omega))) rfl rfl rfl rfl rfl Tryz.func27 bd27 nm27 rfl (by first | exact .inl rfl | exact .inr (fun b h => h) | exact .inr (fun b h => ‹∀ b, _ → _› b h)) ?_
        clear hs; intro v40 w H'40 hs hst40 hp40
        obtain ⟨vN2, rfl⟩ := hp40
        clear hst40
        try simp only [List.cons_append, List.nil_append, List.drop_succ_cons, List.drop_zero] at hs
        refine EW.done ?_
        refine NW.blk ?_
        refine NW.seq ?_
        refine CW.region (S := noS) [(0, .q), (1, .q), (2, .q)] rfl ?_
        refine EW.move rfl rfl rfl rfl rfl rfl ?_
        refine EW.bin rfl rfl rfl rfl rfl rfl rfl (BV.add (wrap_i64 (by omega) (by omega))) ?_
        refine EW.assign rfl rfl rfl rfl rfl rfl ?_
        refine EW.done ?_
        refine NW.again ((k + 1, ps2, vN2, vE)) (by first | assumption | (dsimp only; omega) | omega | (simp; omega)) (by repeat (first | exact trivial | (refine ⟨by first | rfl | (congr 2; omega) | (simp; done) | (congr 1; simp; done), ?_⟩))) ?_
        try dsimp only
        refine ⟨h1', h60, by rw [hn2]; exact hps2, ?_⟩
        rw [hn2]
        exact hs.pick [3, 4, 5, 0, 1, 2] (by decide)
      · skip
        have hn2 : madeG (xs.take (k + 1)) = (madeG (xs.take k)).edge x.1 x.2.1 := by rw [hnext, RG.take1, if_neg (by rw [h2]; simp)]
        have hadS : ¬ fpU (pgR b mb ps) ad.block := own_block hs hadlt (fun x => x) 3
        refine KW.seq ?_
        refine CW.regionD (fpU (pgR b mb ps)) [(0, .q), (1, .q), (2, .q), (3, .q), (4, .q), (5, .q), (6, .q), (7, .q), (8, .q), (9, .q), (10, .q), (11, .l)] mixed (by kernel_rfl) ?_
        replace hs := hs.drew
        refine EW.move rfl rfl rfl rfl rfl rfl ?_
        refine EW.move rfl rfl rfl rfl rfl rfl ?_
        refine EW.move rfl rfl rfl rfl rfl rfl ?_
        refine EW.indexAddr rfl rfl rfl rfl rfl rfl rfl (by omega) (by omega) ?_
        first | refine EW.fieldAddr rfl rfl rfl rfl rfl rfl ?_ | refine EW.fieldAddrA rfl rfl rfl rfl rfl rfl ?_
        refine EW.loadP rfl rfl rfl rfl rfl rfl (by first | with_reducible exact g0 _ hs.keep | with_reducible exact g2 _ hs.keep | with_reducible exact g4 _ hs.keep | assumption | (apply LDP.drew; assumption) | exact St.ld1 hs 0 rfl rfl | exact St.ldA hs 0 rfl rfl rfl | exact St.ld1 hs 1 rfl rfl | exact St.ldA hs 1 rfl rfl rfl | exact St.ld1 hs 2 rfl rfl | exact St.ldA hs 2 rfl rfl rfl | exact St.ld1 hs 3 rfl rfl | exact St.ldA hs 3 rfl rfl rfl | exact St.ld1 hs 4 rfl rfl | exact St.ldA hs 4 rfl rfl rfl | exact St.ld1 hs 5 rfl rfl | exact St.ldA hs 5 rfl rfl rfl | exact St.ld1 hs 6 rfl rfl | exact St.ldA hs 6 rfl rfl rfl) (by first | exact .inl rfl | exact .inr (fun h => h) | exact .inr (fun h => hadS (by simpa [add_block] using h))) ?_
        refine EW.move rfl rfl rfl rfl rfl rfl ?_
        refine EW.move rfl rfl rfl rfl rfl rfl ?_
        refine EW.indexAddr rfl rfl rfl rfl rfl rfl rfl (by omega) (by omega) ?_
        first | refine EW.fieldAddr rfl rfl rfl rfl rfl rfl ?_ | refine EW.fieldAddrA rfl rfl rfl rfl rfl rfl ?_
        refine EW.loadP rfl rfl rfl rfl rfl rfl (by first | with_reducible exact g0 _ hs.keep | with_reducible exact g2 _ hs.keep | with_reducible exact g4 _ hs.keep | assumption | (apply LDP.drew; assumption) | exact St.ld1 hs 0 rfl rfl | exact St.ldA hs 0 rfl rfl rfl | exact St.ld1 hs 1 rfl rfl | exact St.ldA hs 1 rfl rfl rfl | exact St.ld1 hs 2 rfl rfl | exact St.ldA hs 2 rfl rfl rfl | exact St.ld1 hs 3 rfl rfl | exact St.ldA hs 3 rfl rfl rfl | exact St.ld1 hs 4 rfl rfl | exact St.ldA hs 4 rfl rfl rfl | exact St.ld1 hs 5 rfl rfl | exact St.ldA hs 5 rfl rfl rfl | exact St.ld1 hs 6 rfl rfl | exact St.ldA hs 6 rfl rfl rfl) (by first | exact .inl rfl | exact .inr (fun h => h) | exact .inr (fun h => hadS (by simpa [add_block] using h))) ?_
        refine EW.callT3 hs 3 (Edge_spec _ b mb ps _ x.1 x.2.1 (hs.sub 3) hps hok (hgs.big (by omega)) hxm.1 hxm.2 (hgl.keep hs.keep (fun x => x)) (own_block hs hgl.lt (fun x => x) 3)) rfl rfl rfl rfl rfl Tryz.func19 bd19 nm19 rfl (by first | exact .inl rfl | exact .inr (fun b h => h) | exact .inr (fun b h => ‹∀ b, _ → _› b h)) ?_
        clear hs; intro v52 w H'52 hs hst52 hp52
        obtain ⟨ps2, rfl, hps2⟩ := hp52
        clear hst52
        try simp only [List.cons_append, List.nil_append, List.drop_succ_cons, List.drop_zero] at hs
        replace hs : St w0 noS w (rgR b9 vN vE (madeG (xs.take k)) ++ pgR b mb ps2) := hs.pick [3, 4, 5, 0, 1, 2] (by decide)
        have hadS2 : ¬ fpU (rgR b9 vN vE (madeG (xs.take k))) ad.block := own_block hs hadlt (fun x => x) 3
        refine EW.done ?_
        refine NW.seq ?_
        refine CW.regionD (fpU (rgR b9 vN vE (madeG (xs.take k)))) [(0, .q), (1, .q), (2, .q), (3, .q), (4, .q), (5, .q), (6, .q), (7, .q), (8, .q), (9, .q), (10, .q), (11, .l)] mixed (by kernel_rfl) ?_
        replace hs := hs.drew
        refine EW.move rfl rfl rfl rfl rfl rfl ?_
        refine EW.move rfl rfl rfl rfl rfl rfl ?_
        refine EW.move rfl rfl rfl rfl rfl rfl ?_
        refine EW.indexAddr rfl rfl rfl rfl rfl rfl rfl (by omega) (by omega) ?_
        first | refine EW.fieldAddr rfl rfl rfl rfl rfl rfl ?_ | refine EW.fieldAddrA rfl rfl rfl rfl rfl rfl ?_
        refine EW.loadP rfl rfl rfl rfl rfl rfl (by first | with_reducible exact g0 _ hs.keep | with_reducible exact g2 _ hs.keep | with_reducible exact g4 _ hs.keep | assumption | (apply LDP.drew; assumption) | exact St.ld1 hs 0 rfl rfl | exact St.ldA hs 0 rfl rfl rfl | exact St.ld1 hs 1 rfl rfl | exact St.ldA hs 1 rfl rfl rfl | exact St.ld1 hs 2 rfl rfl | exact St.ldA hs 2 rfl rfl rfl | exact St.ld1 hs 3 rfl rfl | exact St.ldA hs 3 rfl rfl rfl | exact St.ld1 hs 4 rfl rfl | exact St.ldA hs 4 rfl rfl rfl | exact St.ld1 hs 5 rfl rfl | exact St.ldA hs 5 rfl rfl rfl | exact St.ld1 hs 6 rfl rfl | exact St.ldA hs 6 rfl rfl rfl) (by first | exact .inl rfl | exact .inr (fun h => h) | exact .inr (fun h => hadS2 (by simpa [add_block] using h))) ?_
        refine EW.move rfl rfl rfl rfl rfl rfl ?_
        refine EW.move rfl rfl rfl rfl rfl rfl ?_
        refine EW.indexAddr rfl rfl rfl rfl rfl rfl rfl (by omega) (by omega) ?_
        first | refine EW.fieldAddr rfl rfl rfl rfl rfl rfl ?_ | refine EW.fieldAddrA rfl rfl rfl rfl rfl rfl ?_
        refine EW.loadP rfl rfl rfl rfl rfl rfl (by first | with_reducible exact g0 _ hs.keep | with_reducible exact g2 _ hs.keep | with_reducible exact g4 _ hs.keep | assumption | (apply LDP.drew; assumption) | exact St.ld1 hs 0 rfl rfl | exact St.ldA hs 0 rfl rfl rfl | exact St.ld1 hs 1 rfl rfl | exact St.ldA hs 1 rfl rfl rfl | exact St.ld1 hs 2 rfl rfl | exact St.ldA hs 2 rfl rfl rfl | exact St.ld1 hs 3 rfl rfl | exact St.ldA hs 3 rfl rfl rfl | exact St.ld1 hs 4 rfl rfl | exact St.ldA hs 4 rfl rfl rfl | exact St.ld1 hs 5 rfl rfl | exact St.ldA hs 5 rfl rfl rfl | exact St.ld1 hs 6 rfl rfl | exact St.ldA hs 6 rfl rfl rfl) (by first | exact .inl rfl | exact .inr (fun h => h) | exact .inr (fun h => hadS2 (by simpa [add_block] using h))) ?_
        refine EW.callT3 hs 3 (REdge_spec _ b9 vN vE _ x.1 x.2.1 (hs.sub 3) (hgs.mono (by omega)) hxm.1 hxm.2) rfl rfl rfl rfl rfl Tryz.func28 bd28 nm28 rfl (by first | exact .inl rfl | exact .inr (fun b h => h) | exact .inr (fun b h => ‹∀ b, _ → _› b h)) ?_
        clear hs; intro v64 w H'64 hs hst64 hp64
        obtain ⟨vN2, vE2, rfl⟩ := hp64
        clear hst64
        try simp only [List.cons_append, List.nil_append, List.drop_succ_cons, List.drop_zero] at hs
        refine EW.done ?_
        refine NW.blk ?_
        refine NW.seq ?_
        refine CW.region (S := noS) [(0, .q), (1, .q), (2, .q)] rfl ?_
        refine EW.move rfl rfl rfl rfl rfl rfl ?_
        refine EW.bin rfl rfl rfl rfl rfl rfl rfl (BV.add (wrap_i64 (by omega) (by omega))) ?_
        refine EW.assign rfl rfl rfl rfl rfl rfl ?_
        refine EW.done ?_
        refine NW.again ((k + 1, ps2, vN2, vE2)) (by first | assumption | (dsimp only; omega) | omega | (simp; omega)) (by repeat (first | exact trivial | (refine ⟨by first | rfl | (congr 2; omega) | (simp; done) | (congr 1; simp; done), ?_⟩))) ?_
        try dsimp only
        refine ⟨h1', h60, by rw [hn2]; exact hps2, ?_⟩
        rw [hn2]
        exact hs.pick [3, 4, 5, 0, 1, 2] (by decide)
    · refine CW.cond_f rfl (by simpa using (by omega : (60 : Int) ≤ ((k : Nat) : Int))) ?_
      refine KW.exit ?_
      refine XW.seq ?_
      refine XW.inv ?_
      refine XW.blk ?_
      refine NW.seq ?_
      refine KW.seq ?_
      refine CW.region (S := noS) [(0, .q), (1, .q), (2, .q), (3, .q)] rfl ?_
      refine EW.move rfl rfl rfl rfl rfl rfl ?_
      refine EW.move rfl rfl rfl rfl rfl rfl ?_
      refine EW.assign rfl rfl rfl rfl rfl rfl ?_
      refine EW.assign rfl rfl rfl rfl rfl rfl ?_
      refine EW.done ?_
      refine NW.seq ?_
      refine KW.ret2 rfl rfl rfl ?_
      refine ⟨_, rfl, hs.keep, ?_⟩
      exact hfin (by omega) hps hs
  · skip
    have h1' : ¬ k < xs.length := by simp at h1; omega
    refine EW.off rfl rfl rfl rfl ?_
    refine EW.off rfl rfl rfl rfl ?_
    refine EW.pick rfl rfl rfl rfl rfl rfl rfl ?_
    refine EW.done ?_
    refine NW.seq ?_
    refine CW.cond_f rfl (rfl) ?_
    refine KW.exit ?_
    refine XW.seq ?_
    refine XW.inv ?_
    refine XW.blk ?_
    refine NW.seq ?_
    refine KW.seq ?_
    refine CW.region (S := noS) [(0, .q), (1, .q), (2, .q), (3, .q)] rfl ?_
    refine EW.move rfl rfl rfl rfl rfl rfl ?_
    refine EW.move rfl rfl rfl rfl rfl rfl ?_
    refine EW.assign rfl rfl rfl rfl rfl rfl ?_
    refine EW.assign rfl rfl rfl rfl rfl rfl ?_
    refine EW.done ?_
    refine NW.seq ?_
    refine KW.ret2 rfl rfl rfl ?_
    refine ⟨_, rfl, hs.keep, ?_⟩
    exact hfin (by omega) hps hs
end Go.Cw.Tryz
set_option linter.unusedVariables false
set_option linter.unusedSimpArgs false
namespace Go.Cw.Tryz
open Go.Proofs Go.Cw Go.Shelf Go.Sort
attribute [local irreducible] Go.Addr.add
/-! ### The document's example -/
def lab1 (c : UInt8) : Lab := ⟨ByteArray.empty, ⟨#[c]⟩⟩
def headL : List Edi := [(lab1 97, lab1 98, false), (lab1 98, lab1 97, false), (lab1 98, lab1 99, false), (lab1 99, lab1 99, false), (lab1 100, lab1 97, false), (lab1 101, ⟨ByteArray.empty, ByteArray.empty⟩, true)]
def headN : List Lab := [lab1 97, lab1 98, lab1 99, lab1 100, lab1 101]
def headE : List Edg := [(lab1 97, lab1 98), (lab1 98, lab1 97), (lab1 98, lab1 99), (lab1 99, lab1 99), (lab1 100, lab1 97)]
theorem lab1_inj (c d : UInt8) : lab1 c = lab1 d ↔ c = d := by
  constructor
  · intro h
    simp only [lab1, Lab.mk.injEq, true_and, ByteArray.mk.injEq] at h
    simpa using h
  · intro h; rw [h]
theorem headG_eq : madeG (headL.take 60) = ⟨headN, headE⟩ := by
  simp [madeG, headL, RG.take1, RG.edge, RG.node, lab1_inj, headN, headE]
theorem lt1 (c d : UInt8) (h : c.toNat < d.toNat) : ltLab (lab1 c) (lab1 d) = true := by
  have h1 : cmpP ByteArray.empty ByteArray.empty = 0 := by rfl
  have h2 : cmpS ⟨#[c]⟩ ⟨#[d]⟩ = -1 := by
    show cmpL cmpB [c] [d] = -1
    simp [cmpL, cmpB, h]
  unfold ltLab cmpLab lab1
  dsimp only
  rw [if_pos h1, h2]; rfl
def headP : List (List Lab) := [[lab1 97, lab1 98], [lab1 99], [lab1 100], [lab1 101]]
theorem rc_stays {E : List Edg} {a b : Lab} (C : Lab → Prop) (hC : ∀ e ∈ E, C e.1 → C e.2) (h : Rc E a b) (ha : C a) : C b := by
  unfold Rc at h
  induction h with
  | base x hx => subst hx; exact ha
  | step x y _ he ih => exact hC _ he ih
theorem head_isParts : IsParts headN headE headP := by
  have e1 : Rc headE (lab1 97) (lab1 98) := .one (by simp [headE])
  have e2 : Rc headE (lab1 98) (lab1 97) := .one (by simp [headE])
  have s1 : ∀ b, Rc headE (lab1 97) b → b = lab1 97 ∨ b = lab1 98 ∨ b = lab1 99 := fun b h => rc_stays (fun b => b = lab1 97 ∨ b = lab1 98 ∨ b = lab1 99) (by simp [headE, lab1_inj]) h (.inl rfl)
  have s2 : ∀ b, Rc headE (lab1 99) b → b = lab1 99 := fun b h => rc_stays (fun b => b = lab1 99) (by simp [headE, lab1_inj]) h rfl
  have s3 : ∀ b, Rc headE (lab1 100) b → b = lab1 100 ∨ b = lab1 97 ∨ b = lab1 98 ∨ b = lab1 99 := fun b h => rc_stays (fun b => b = lab1 100 ∨ b = lab1 97 ∨ b = lab1 98 ∨ b = lab1 99) (by simp [headE, lab1_inj]) h (.inl rfl)
  have s4 : ∀ b, Rc headE (lab1 101) b → b = lab1 101 := fun b h => rc_stays (fun b => b = lab1 101) (by simp [headE, lab1_inj]) h rfl
  have n1 : ¬ Rc headE (lab1 99) (lab1 97) := fun h => by have := s2 _ h; simp [lab1_inj] at this
  have n2 : ¬ Rc headE (lab1 97) (lab1 100) := fun h => by have := s1 _ h; simp [lab1_inj] at this
  refine ⟨?_, by simp [headP], ?_, ?_, ?_⟩
  · intro p hp
    simp only [headP, List.mem_cons, List.not_mem_nil, or_false] at hp
    rcases hp with rfl | rfl | rfl | rfl <;> simp [SortedL, lt1]
  · simp [headP, lt1]
  · intro a
    simp only [headN, headP, List.mem_cons, List.not_mem_nil, or_false]
    constructor
    · rintro (rfl | rfl | rfl | rfl | rfl)
      · exact ⟨_, .inl rfl, by simp⟩
      · exact ⟨_, .inl rfl, by simp⟩
      · exact ⟨_, .inr (.inl rfl), by simp⟩
      · exact ⟨_, .inr (.inr (.inl rfl)), by simp⟩
      · exact ⟨_, .inr (.inr (.inr rfl)), by simp⟩
    · rintro ⟨p, rfl | rfl | rfl | rfl, h⟩ <;> simp at h <;> (try rcases h with rfl | rfl) <;> simp_all
  · intro p hp a ha b
    simp only [headP, List.mem_cons, List.not_mem_nil, or_false] at hp
    rcases hp with rfl | rfl | rfl | rfl
    · simp only [List.mem_cons, List.not_mem_nil, or_false] at ha ⊢
      have key : b = lab1 97 ∨ b = lab1 98 ↔ Rc headE (lab1 97) b ∧ Rc headE b (lab1 97) := by
        constructor
        · rintro (rfl | rfl)
          · exact ⟨.refl _ _, .refl _ _⟩
          · exact ⟨e1, e2⟩
        · rintro ⟨h1, h2⟩
          rcases s1 b h1 with rfl | rfl | rfl
          · exact .inl rfl
          · exact .inr rfl
          · exact absurd h2 n1
      rcases ha with rfl | rfl
      · exact key
      · rw [key]
        exact ⟨fun ⟨h1, h2⟩ => ⟨e2.trans h1, h2.trans e1⟩, fun ⟨h1, h2⟩ => ⟨e1.trans h1, h2.trans e2⟩⟩
    · simp only [List.mem_cons, List.not_mem_nil, or_false] at ha ⊢
      subst ha
      exact ⟨fun h => by subst h; exact ⟨.refl _ _, .refl _ _⟩, fun h => s2 b h.1⟩
    · simp only [List.mem_cons, List.not_mem_nil, or_false] at ha ⊢
      subst ha
      refine ⟨fun h => by subst h; exact ⟨.refl _ _, .refl _ _⟩, fun h => ?_⟩
      rcases s3 b h.1 with rfl | rfl | rfl | rfl
      · rfl
      · exact absurd h.2 n2
      · exact absurd (e1.trans h.2) n2
      · have := s2 _ h.2; simp [lab1_inj] at this
    · simp only [List.mem_cons, List.not_mem_nil, or_false] at ha ⊢
      subst ha
      exact ⟨fun h => by subst h; exact ⟨.refl _ _, .refl _ _⟩, fun h => s4 b h.1⟩
theorem head_first : firstC headE headP = ([lab1 97, lab1 98], true) := by simp [firstC, headP, holdsC]
theorem sm1 (c : UInt8) : Cw.Sm (lab1 c) := ⟨Nat.zero_le _, by show (1 : Nat) ≤ 1048576; omega⟩
theorem headL_sm : ∀ x ∈ headL, SmD x := by
  intro x hx
  simp only [headL, List.mem_cons, List.not_mem_nil, or_false] at hx
  rcases hx with rfl | rfl | rfl | rfl | rfl | rfl <;> exact ⟨sm1 _, by first | exact sm1 _ | exact ⟨Nat.zero_le _, Nat.zero_le _⟩⟩
theorem build55 (x y : Lab) : ∀ w, (Instr.build 55 [(0, encL x), (1, encL y)].toArray).run Tryz.prog w = .ok (encD (x, y, false)) w := fun w => by kernel_rfl
theorem build55b (x : Lab) : ∀ w, (Instr.build 55 [(0, encL x), (2, .bool true)].toArray).run Tryz.prog w = .ok (encD (x, ⟨ByteArray.empty, ByteArray.empty⟩, true)) w := fun w => by kernel_rfl
end Go.Cw.Tryz
set_option linter.unusedVariables false
set_option linter.unusedSimpArgs false
namespace Go.Cw.Tryz
open Go.Proofs Go.Cw Go.Shelf Go.Sort
attribute [local irreducible] Go.Addr.add
theorem head_spec (w0 : World) (hgl : GL w0) : T1 Tryz.prog 6 [] w0 fun v w' => v = .bool true := by
  obtain ⟨hok, hgs⟩ := madeG_good (headL.take 60) (fun x hx => headL_sm x (List.mem_of_mem_take hx))
  rw [headG_eq] at hok hgs
  have hnl : headN.length ≤ 100000 := by decide
  have hbig := hgs.big (by decide)
  refine KW.enterT1 (n := 57) Tryz.func6 rfl rfl rfl ?_
  have hs := St.init w0 noS
  refine KW.seq ?_
  refine CW.region (S := noS) [(0, .q)] rfl ?_
  refine EW.assign rfl rfl rfl rfl rfl rfl ?_
  refine EW.done ?_
  refine NW.seq ?_
  refine KW.seq ?_
  refine CW.region (S := noS) [(0, .l), (1, .l), (2, .q), (3, .l), (4, .l), (5, .q), (6, .l), (7, .l), (8, .q), (9, .l), (10, .l), (11, .q), (12, .l), (13, .l), (14, .q), (15, .l), (16, .q), (17, .l), (18, .l), (19, .q), (20, .q), (21, .q), (22, .q), (23, .q)] rfl ?_
  refine EW.callT1 (n_spec _ _) rfl rfl rfl rfl rfl Tryz.func25 bd25 nm25 rfl ?_
  intro v6 w hk6 hp6
  subst hp6
  replace hs := hs.stay hk6
  refine EW.callT1 (n_spec _ _) rfl rfl rfl rfl rfl Tryz.func25 bd25 nm25 rfl ?_
  intro v7 w hk7 hp7
  subst hp7
  replace hs := hs.stay hk7
  refine EW.build (α := Unit) (pv := [(0, encL (lab1 97)), (1, encL (lab1 98))]) rfl rfl rfl rfl rfl rfl rfl (build55 _ _) ?_
  refine EW.callT1 (n_spec _ _) rfl rfl rfl rfl rfl Tryz.func25 bd25 nm25 rfl ?_
  intro v9 w hk9 hp9
  subst hp9
  replace hs := hs.stay hk9
  refine EW.callT1 (n_spec _ _) rfl rfl rfl rfl rfl Tryz.func25 bd25 nm25 rfl ?_
  intro v10 w hk10 hp10
  subst hp10
  replace hs := hs.stay hk10
  refine EW.build (α := Unit) (pv := [(0, encL (lab1 98)), (1, encL (lab1 97))]) rfl rfl rfl rfl rfl rfl rfl (build55 _ _) ?_
  refine EW.callT1 (n_spec _ _) rfl rfl rfl rfl rfl Tryz.func25 bd25 nm25 rfl ?_
  intro v12 w hk12 hp12
  subst hp12
  replace hs := hs.stay hk12
  refine EW.callT1 (n_spec _ _) rfl rfl rfl rfl rfl Tryz.func25 bd25 nm25 rfl ?_
  intro v13 w hk13 hp13
  subst hp13
  replace hs := hs.stay hk13
  refine EW.build (α := Unit) (pv := [(0, encL (lab1 98)), (1, encL (lab1 99))]) rfl rfl rfl rfl rfl rfl rfl (build55 _ _) ?_
  refine EW.callT1 (n_spec _ _) rfl rfl rfl rfl rfl Tryz.func25 bd25 nm25 rfl ?_
  intro v15 w hk15 hp15
  subst hp15
  replace hs := hs.stay hk15
  refine EW.callT1 (n_spec _ _) rfl rfl rfl rfl rfl Tryz.func25 bd25 nm25 rfl ?_
  intro v16 w hk16 hp16
  subst hp16
  replace hs := hs.stay hk16
  refine EW.build (α := Unit) (pv := [(0, encL (lab1 99)), (1, encL (lab1 99))]) rfl rfl rfl rfl rfl rfl rfl (build55 _ _) ?_
  refine EW.callT1 (n_spec _ _) rfl rfl rfl rfl rfl Tryz.func25 bd25 nm25 rfl ?_
  intro v18 w hk18 hp18
  subst hp18
  replace hs := hs.stay hk18
  refine EW.callT1 (n_spec _ _) rfl rfl rfl rfl rfl Tryz.func25 bd25 nm25 rfl ?_
  intro v19 w hk19 hp19
  subst hp19
  replace hs := hs.stay hk19
  refine EW.build (α := Unit) (pv := [(0, encL (lab1 100)), (1, encL (lab1 97))]) rfl rfl rfl rfl rfl rfl rfl (build55 _ _) ?_
  refine EW.callT1 (n_spec _ _) rfl rfl rfl rfl rfl Tryz.func25 bd25 nm25 rfl ?_
  intro v21 w hk21 hp21
  subst hp21
  replace hs := hs.stay hk21
  refine EW.build (α := Unit) (pv := [(0, encL (lab1 101)), (2, .bool true)]) rfl rfl rfl rfl rfl rfl rfl (build55b _) ?_
  refine EW.litN elD headL hs rfl rfl rfl rfl rfl rfl rfl rfl rfl rfl ?_
  clear hs; intro b23 w hs
  refine EW.callT1 (made_spec _ _ _ headL (hs.sl 0 rfl) (by decide) headL_sm (hgl.stay hs.keep)) rfl rfl rfl rfl rfl Tryz.func7 bd7 nm7 rfl ?_
  intro v24 w hk24 hp24
  obtain ⟨b, mb, ps, b2, vN, vE, rfl, hps, hst⟩ := hp24
  replace hs := hs.plus hst
  clear hst
  rw [headG_eq] at hps hs
  refine EW.move rfl rfl rfl rfl rfl rfl ?_
  refine EW.extract rfl rfl rfl rfl rfl rfl rfl ?_
  refine EW.extract rfl rfl rfl rfl rfl rfl rfl ?_
  refine EW.assign rfl rfl rfl rfl rfl rfl ?_
  refine EW.assign rfl rfl rfl rfl rfl rfl ?_
  refine EW.done ?_
  refine NW.seq ?_
  refine KW.seq ?_
  refine KW.seq ?_
  refine CW.region (S := noS) [(0, .q), (1, .q)] rfl ?_
  refine EW.move rfl rfl rfl rfl rfl rfl ?_
  refine EW.bin rfl rfl rfl rfl rfl rfl rfl BV.ptr_eqnil ?_
  refine EW.done ?_
  refine NW.seq ?_
  refine CW.cond_f rfl (rfl) ?_
  refine KW.skip ?_
  refine NW.seq ?_
  refine KW.seq ?_
  refine CW.region (S := noS) [(0, .q), (1, .l), (2, .q), (3, .q), (4, .q), (5, .q), (6, .q)] rfl ?_
  refine EW.move rfl rfl rfl rfl rfl rfl ?_
  refine EW.callT1 (First_spec _ b mb ps ⟨headN, headE⟩ (PGA.of hs 0 1 2 rfl rfl rfl) hps hok hbig hnl hgs.nm (hgl.stay hs.keep)) rfl rfl rfl rfl rfl Tryz.func9 bd9 nm9 rfl ?_
  intro v31 w hk31 hp31
  obtain ⟨xss, hip, ⟨A31, n31, c31⟩, rfl, hst⟩ := hp31
  obtain rfl := parts_unique hip head_isParts
  dsimp only at hst ⊢
  rw [head_first] at hst ⊢
  replace hs := hs.plus hst
  clear hst
  simp only [svV, List.cons_append, List.nil_append] at hs ⊢
  obtain rfl := (own_slA (hs.res 0 rfl)).2.1
  refine EW.move rfl rfl rfl rfl rfl rfl ?_
  refine EW.extract rfl rfl rfl rfl rfl rfl rfl ?_
  refine EW.extract rfl rfl rfl rfl rfl rfl rfl ?_
  refine EW.assign rfl rfl rfl rfl rfl rfl ?_
  refine EW.assign rfl rfl rfl rfl rfl rfl ?_
  refine EW.done ?_
  refine NW.seq ?_
  refine KW.seq ?_
  refine CW.region (S := noS) [(0, .q), (1, .q), (2, .q), (3, .l), (4, .l), (5, .l), (6, .l), (7, .q), (8, .q), (9, .q), (10, .l), (11, .l), (12, .l), (13, .l), (14, .l), (15, .l), (16, .l), (17, .l), (18, .l), (19, .l), (20, .l), (21, .l), (22, .q), (23, .q)] rfl ?_
  refine EW.move rfl rfl rfl rfl rfl rfl ?_
  refine EW.move rfl rfl rfl rfl rfl rfl ?_
  refine EW.move rfl rfl rfl rfl rfl rfl ?_
  refine EW.callT1 (n_spec _ _) rfl rfl rfl rfl rfl Tryz.func25 bd25 nm25 rfl ?_
  intro v37 w hk37 hp37
  subst hp37
  replace hs := hs.stay hk37
  refine EW.callT1 (n_spec _ _) rfl rfl rfl rfl rfl Tryz.func25 bd25 nm25 rfl ?_
  intro v38 w hk38 hp38
  subst hp38
  replace hs := hs.stay hk38
  refine EW.litN elL [lab1 97, lab1 98] hs rfl rfl rfl rfl rfl rfl rfl rfl rfl rfl ?_
  clear hs; intro b39 w hs
  refine EW.callT1 (same_spec _ _ _ _ _ [lab1 97, lab1 98] [lab1 97, lab1 98] (hs.sl 1 rfl) (hs.sl 0 rfl) (by decide) (by decide)) rfl rfl rfl rfl rfl Tryz.func13 bd13 nm13 rfl ?_
  intro v40 w hk40 hp40
  subst hp40
  replace hs := hs.stay hk40
  rw [decide_eq_true rfl]
  refine EW.pick rfl rfl rfl rfl rfl rfl rfl ?_
  refine EW.move rfl rfl rfl rfl rfl rfl ?_
  refine EW.move rfl rfl rfl rfl rfl rfl ?_
  refine EW.callT1 (Parts_spec _ b mb ps ⟨headN, headE⟩ (PGA.of hs 2 3 4 rfl rfl rfl) hps hok hbig hnl hgs.nm (hgl.stay hs.keep)) rfl rfl rfl rfl rfl Tryz.func8 bd8 nm8 rfl ?_
  intro v44 w hk44 hp44
  obtain ⟨xss2, hip2, qs, hq, hst⟩ := hp44
  rw [parts_unique hip2 head_isParts] at hq
  replace hs := hs.plus hst
  clear hst
  obtain ⟨A44, c44, rfl, _⟩ := own_sl (hs.res 0 rfl)
  refine EW.callT1 (n_spec _ _) rfl rfl rfl rfl rfl Tryz.func25 bd25 nm25 rfl ?_
  intro v45 w hk45 hp45
  subst hp45
  replace hs := hs.stay hk45
  refine EW.callT1 (n_spec _ _) rfl rfl rfl rfl rfl Tryz.func25 bd25 nm25 rfl ?_
  intro v46 w hk46 hp46
  subst hp46
  replace hs := hs.stay hk46
  refine EW.litN elL [lab1 97, lab1 98] hs rfl rfl rfl rfl rfl rfl rfl rfl rfl rfl ?_
  clear hs; intro b47 w hs
  refine EW.callT1 (n_spec _ _) rfl rfl rfl rfl rfl Tryz.func25 bd25 nm25 rfl ?_
  intro v48 w hk48 hp48
  subst hp48
  replace hs := hs.stay hk48
  refine EW.litN elL [lab1 99] hs rfl rfl rfl rfl rfl rfl rfl rfl rfl rfl ?_
  clear hs; intro b49 w hs
  refine EW.callT1 (n_spec _ _) rfl rfl rfl rfl rfl Tryz.func25 bd25 nm25 rfl ?_
  intro v50 w hk50 hp50
  subst hp50
  replace hs := hs.stay hk50
  refine EW.litN elL [lab1 100] hs rfl rfl rfl rfl rfl rfl rfl rfl rfl rfl ?_
  clear hs; intro b51 w hs
  refine EW.callT1 (n_spec _ _) rfl rfl rfl rfl rfl Tryz.func25 bd25 nm25 rfl ?_
  intro v52 w hk52 hp52
  subst hp52
  replace hs := hs.stay hk52
  refine EW.litN elL [lab1 101] hs rfl rfl rfl rfl rfl rfl rfl rfl rfl rfl ?_
  clear hs; intro b53 w hs
  refine EW.litN elP [(some ⟨b47, 0, none⟩, 2, 2), (some ⟨b49, 0, none⟩, 1, 1), (some ⟨b51, 0, none⟩, 1, 1), (some ⟨b53, 0, none⟩, 1, 1)] hs rfl rfl rfl rfl rfl rfl rfl rfl rfl rfl ?_
  clear hs; intro b54 w hs
  have hql : qs.length = 4 := by have := congrArg List.length hq; simpa [headP] using this
  have hlen : (qs.map (·.1)).length = qs.length := by simp
  have hra : RowsA w A44 qs := RowsA.of hs 5 6 rfl rfl
  have hqm : ∀ p ∈ qs, p.2.length ≤ 1000000 := fun p hp => by
    have : p.2 ∈ headP := by rw [← hq]; exact List.mem_map.2 ⟨p, hp, rfl⟩
    simp only [headP, List.mem_cons, List.not_mem_nil, or_false] at this
    rcases this with h | h | h | h <;> rw [h] <;> decide
  have hrb : RowsA w (some ⟨b54, 0, none⟩) [((some ⟨b47, 0, none⟩, 2, 2), [lab1 97, lab1 98]), ((some ⟨b49, 0, none⟩, 1, 1), [lab1 99]), ((some ⟨b51, 0, none⟩, 1, 1), [lab1 100]), ((some ⟨b53, 0, none⟩, 1, 1), [lab1 101])] := by
    refine ⟨hs.sl 0 rfl, fun p hp => ?_⟩
    simp only [List.mem_cons, List.not_mem_nil, or_false] at hp
    rcases hp with rfl | rfl | rfl | rfl
    · exact ⟨hs.sl 4 rfl, rfl⟩
    · exact ⟨hs.sl 3 rfl, rfl⟩
    · exact ⟨hs.sl 2 rfl, rfl⟩
    · exact ⟨hs.sl 1 rfl, rfl⟩
  rw [hlen]
  refine EW.callT1 (sameAll_spec _ _ _ _ _ qs [((some ⟨b47, 0, none⟩, 2, 2), [lab1 97, lab1 98]), ((some ⟨b49, 0, none⟩, 1, 1), [lab1 99]), ((some ⟨b51, 0, none⟩, 1, 1), [lab1 100]), ((some ⟨b53, 0, none⟩, 1, 1), [lab1 101])] hra hrb (by omega) (by simp) hqm (by intro p hp; simp only [List.mem_cons, List.not_mem_nil, or_false] at hp; rcases hp with rfl | rfl | rfl | rfl <;> simp)) rfl rfl rfl rfl rfl Tryz.func11 bd11 nm11 rfl ?_
  intro v55 w hk55 hp55
  subst hp55
  replace hs := hs.stay hk55
  rw [hq, decide_eq_true (by rfl)]
  refine EW.pick rfl rfl rfl rfl rfl rfl rfl ?_
  refine EW.assign rfl rfl rfl rfl rfl rfl ?_
  refine EW.done ?_
  refine NW.seq ?_
  refine KW.ret1 rfl rfl ?_
  refine ⟨_, rfl, hs.keep, ?_⟩
  rfl
end Go.Cw.Tryz
set_option linter.unusedVariables false
set_option linter.unusedSimpArgs false
namespace Go.Cw.Tryz
open Go.Proofs Go.Cw Go.Shelf Go.Sort
attribute [local irreducible] Go.Addr.add
theorem parts_num {N : List Lab} {E : List (Lab × Lab)} {xss : List (List Lab)} (hip : IsParts N E xss) : xss.length ≤ N.length := by
  have h2 := nodup_sub_len (xss.filterMap List.head?) N (by
    rw [List.Nodup, List.pairwise_filterMap]
    refine hip.order.imp ?_
    intro p q h a ha b hb e
    subst e
    have := h a ha a hb
    rw [lt_irrefl] at this; cases this) (fun a ha => by
    obtain ⟨p, hp, hpa⟩ := List.mem_filterMap.1 ha
    refine (hip.all a).2 ⟨p, hp, ?_⟩
    cases p with
    | nil => simp at hpa
    | cons y t => simp at hpa; subst hpa; simp)
  have h3 : (xss.filterMap List.head?).length = xss.length := by
    have : ∀ l : List (List Lab), (∀ p ∈ l, p ≠ []) → (l.filterMap List.head?).length = l.length := by
      intro l
      induction l with
      | nil => simp
      | cons p r ih =>
        intro h
        cases p with
        | nil => exact absurd rfl (h [] (by simp))
        | cons y t => simp [List.filterMap_cons, ih fun q hq => h q (by simp [hq])]
    exact this _ hip.ne
  omega
theorem part_len {N : List Lab} {E : List (Lab × Lab)} {xss : List (List Lab)} (hip : IsParts N E xss) : ∀ p ∈ xss, p.length ≤ N.length := fun p hp =>
  nodup_sub_len p N ((hip.sorted p hp).imp fun {a b} h e => by rw [e, lt_irrefl] at h; cases h) (fun a ha => (hip.all a).2 ⟨p, hp, ha⟩)
theorem first_len {N : List Lab} {E E' : List (Lab × Lab)} {xss : List (List Lab)} (hip : IsParts N E xss) : (firstC E' xss).1.length ≤ N.length := by
  unfold firstC
  split
  · rename_i p hp
    exact part_len hip p (List.mem_of_find?_eq_some hp)
  · exact Nat.zero_le _
theorem CycleAll_spec (w0 : World) (A : Option Addr) (c : Nat) (xs : List Edi) (hx : SlA elD w0 A xs) (hl : xs.length ≤ 10000000) (hsm : ∀ x ∈ xs, SmD x) (hgl : GL w0) :
    T1 Tryz.prog 3 [.slice A xs.length c] w0 fun v w' => v = .bool true := by
  obtain ⟨hok, hgs⟩ := madeG_good (xs.take 60) (fun x hx => hsm x (List.mem_of_mem_take hx))
  replace hgs := hgs.mono (l := 120) (by have := List.length_take_le 60 xs; omega)
  obtain ⟨g, hge⟩ : ∃ g, g = madeG (xs.take 60) := ⟨_, rfl⟩
  rw [← hge] at hok hgs
  have hnl : g.N.length ≤ 120 := hgs.n
  have hel : g.E.length ≤ 120 := hgs.e
  have hbig := hgs.big (by decide)
  have hg1 : g.Sm 1000 := hgs.mono (by decide)
  refine KW.enterT1 (n := 88) Tryz.func3 rfl rfl rfl ?_
  have hs := St.init w0 noS
  refine KW.seq ?_
  refine CW.region (S := noS) [(0, .q)] rfl ?_
  refine EW.assign rfl rfl rfl rfl rfl rfl ?_
  refine EW.done ?_
  refine NW.seq ?_
  refine KW.seq ?_
  refine KW.seq ?_
  refine CW.region (S := noS) [(0, .l), (1, .q)] rfl ?_
  refine EW.callT1 (head_spec _ (hgl.stay hs.keep)) rfl rfl rfl rfl rfl Tryz.func6 bd6 nm6 rfl ?_
  intro v11 w hk11 hp11
  subst hp11
  replace hs := hs.stay hk11
  refine EW.not rfl rfl rfl rfl rfl rfl ?_
  refine EW.done ?_
  refine NW.seq ?_
  refine CW.cond_f rfl (rfl) ?_
  refine KW.skip ?_
  refine NW.seq ?_
  refine KW.seq ?_
  refine CW.region (S := noS) [(0, .q), (1, .l), (2, .q), (3, .q), (4, .q), (5, .q), (6, .q)] rfl ?_
  refine EW.move rfl rfl rfl rfl rfl rfl ?_
  refine EW.callT1 (made_spec _ _ _ xs (hx.stay hs.keep) hl hsm (hgl.stay hs.keep)) rfl rfl rfl rfl rfl Tryz.func7 bd7 nm7 rfl ?_
  intro v15 w hk15 hp15
  obtain ⟨b, mb, ps, b2, vN, vE, rfl, hps, hst⟩ := hp15
  replace hs := hs.plus hst
  clear hst
  rw [← hge] at hps hs
  refine EW.move rfl rfl rfl rfl rfl rfl ?_
  refine EW.extract rfl rfl rfl rfl rfl rfl rfl ?_
  refine EW.extract rfl rfl rfl rfl rfl rfl rfl ?_
  refine EW.assign rfl rfl rfl rfl rfl rfl ?_
  refine EW.assign rfl rfl rfl rfl rfl rfl ?_
  refine EW.done ?_
  refine NW.seq ?_
  refine KW.seq ?_
  refine KW.seq ?_
  refine CW.region (S := noS) [(0, .q), (1, .q)] rfl ?_
  refine EW.move rfl rfl rfl rfl rfl rfl ?_
  refine EW.bin rfl rfl rfl rfl rfl rfl rfl BV.ptr_eqnil ?_
  refine EW.done ?_
  refine NW.seq ?_
  refine CW.cond_f rfl (rfl) ?_
  rw [List.append_nil] at hs
  simp only [pgR, rgR, List.cons_append, List.nil_append] at hs
  obtain ⟨AN, cN, rfl, _⟩ := own_sl (hs.res 4 rfl)
  obtain ⟨AE, cE, rfl, _⟩ := own_sl (hs.res 5 rfl)
  refine KW.skip ?_
  refine NW.seq ?_
  refine KW.seq ?_
  refine CW.region (S := noS) [(0, .q), (1, .l), (2, .q)] rfl ?_
  refine EW.move rfl rfl rfl rfl rfl rfl ?_
  refine EW.callT1 (Parts_spec _ b mb ps g (PGA.of hs 0 1 2 rfl rfl rfl) hps hok hbig (by omega) hgs.nm (hgl.stay hs.keep)) rfl rfl rfl rfl rfl Tryz.func8 bd8 nm8 rfl ?_
  intro v21 w hk21 hp21
  obtain ⟨xss, hip, qs, hq, hst⟩ := hp21
  replace hs := hs.plus hst
  clear hst
  simp only [List.cons_append, List.nil_append] at hs
  obtain ⟨A21, c21, rfl, _⟩ := own_sl (hs.res 0 rfl)
  refine EW.assign rfl rfl rfl rfl rfl rfl ?_
  refine EW.done ?_
  refine NW.seq ?_
  refine KW.seq ?_
  refine CW.region (S := noS) [(0, .q), (1, .l), (2, .q), (3, .q), (4, .q), (5, .q), (6, .q)] rfl ?_
  refine EW.move rfl rfl rfl rfl rfl rfl ?_
  refine EW.callT1 (First_spec _ b mb ps g (PGA.of hs 2 3 4 rfl rfl rfl) hps hok hbig (by omega) hgs.nm (hgl.stay hs.keep)) rfl rfl rfl rfl rfl Tryz.func9 bd9 nm9 rfl ?_
  intro v24 w hk24 hp24
  obtain ⟨xss2, hip2, ⟨A24, n24, c24⟩, rfl, hst⟩ := hp24
  rw [parts_unique hip2 hip] at hst ⊢
  replace hs := hs.plus hst
  clear hst
  simp only [svV, List.cons_append, List.nil_append] at hs ⊢
  obtain rfl := (own_slA (hs.res 0 rfl)).2.1
  refine EW.move rfl rfl rfl rfl rfl rfl ?_
  refine EW.extract rfl rfl rfl rfl rfl rfl rfl ?_
  refine EW.extract rfl rfl rfl rfl rfl rfl rfl ?_
  refine EW.assign rfl rfl rfl rfl rfl rfl ?_
  refine EW.assign rfl rfl rfl rfl rfl rfl ?_
  refine EW.done ?_
  refine NW.seq ?_
  refine KW.seq ?_
  refine CW.region (S := noS) [(0, .q), (1, .l), (2, .q), (3, .q), (4, .q), (5, .q), (6, .q)] rfl ?_
  refine EW.move rfl rfl rfl rfl rfl rfl ?_
  refine EW.callT1 (RFirst_spec _ b2 AN cN AE cE g (RGA.of hs 6 7 8 rfl rfl rfl) hg1 hok.wf) rfl rfl rfl rfl rfl Tryz.func10 bd10 nm10 rfl ?_
  intro v29 w hk29 hp29
  obtain ⟨xss3, hip3, ⟨A29, n29, c29⟩, rfl, hst⟩ := hp29
  rw [parts_unique hip3 hip] at hst ⊢
  replace hs := hs.plus hst
  clear hst
  simp only [svV, List.cons_append, List.nil_append] at hs ⊢
  obtain rfl := (own_slA (hs.res 0 rfl)).2.1
  refine EW.move rfl rfl rfl rfl rfl rfl ?_
  refine EW.extract rfl rfl rfl rfl rfl rfl rfl ?_
  refine EW.extract rfl rfl rfl rfl rfl rfl rfl ?_
  refine EW.assign rfl rfl rfl rfl rfl rfl ?_
  refine EW.assign rfl rfl rfl rfl rfl rfl ?_
  have hfl : (firstC g.E xss).1.length ≤ 120 := Nat.le_trans (first_len hip) hnl
  have hpn : xss.length ≤ 120 := Nat.le_trans (parts_num hip) hnl
  have hpl : ∀ p ∈ xss, p.length ≤ 1000000 := fun p hp => Nat.le_trans (part_len hip p hp) (by omega)
  have hqn : qs.length ≤ 120 := by have := congrArg List.length hq; simp only [List.length_map] at this; omega
  have hrl : (risingL g.N).length ≤ 120 := Nat.le_trans (length_risingL _) hnl
  have hql1 : (qs.map (·.1)).length = qs.length := by simp
  rw [hql1] at hs ⊢
  refine EW.done ?_
  refine NW.seq ?_
  refine KW.seq ?_
  refine KW.seq ?_
  refine CW.regionD (noS) [(0, .q), (1, .q), (2, .l), (3, .l), (4, .q), (5, .q), (6, .q), (7, .q), (8, .q), (9, .q), (10, .q), (11, .q), (12, .q), (13, .l), (14, .q), (15, .q), (16, .q), (17, .q), (19, .q), (20, .q), (21, .q), (22, .q), (18, .l), (23, .l), (24, .l), (25, .q), (26, .q)] mixed (by kernel_rfl) ?_
  replace hs := hs.drew
  refine EW.move rfl rfl rfl rfl rfl rfl ?_
  refine EW.move rfl rfl rfl rfl rfl rfl ?_
  refine EW.callT1 (RParts_spec _ b2 AN cN AE cE g (RGA.of hs 7 8 9 rfl rfl rfl) hg1 hok.wf) rfl rfl rfl rfl rfl Tryz.func12 bd12 nm12 rfl ?_
  intro v34 w hk34 hp34
  obtain ⟨xss4, hip4, rs, hr, hst⟩ := hp34
  rw [parts_unique hip4 hip] at hr
  replace hs := hs.plus hst
  clear hst
  simp only [List.cons_append, List.nil_append] at hs
  obtain ⟨A34, c34, rfl, _⟩ := own_sl (hs.res 0 rfl)
  have hrn : rs.length ≤ 120 := (by have := congrArg List.length hr; simp only [List.length_map] at this; omega)
  have hrl1 : (rs.map (·.1)).length = rs.length := (by simp)
  rw [hrl1] at hs ⊢
  refine EW.callT1 (sameAll_spec _ _ _ _ _ qs rs (RowsA.of hs 4 5 rfl rfl) (RowsA.of hs 0 1 rfl rfl) (by omega) (by omega) (fun p hp => hpl _ (by rw [← hq]; exact List.mem_map.2 ⟨p, hp, rfl⟩)) (fun p hp => hpl _ (by rw [← hr]; exact List.mem_map.2 ⟨p, hp, rfl⟩))) rfl rfl rfl rfl rfl Tryz.func11 bd11 nm11 rfl ?_
  intro v35 w hk35 hp35
  subst hp35
  replace hs := hs.stay hk35
  rw [decide_eq_true (hq.trans hr.symm)]
  refine EW.not rfl rfl rfl rfl rfl rfl ?_
  refine EW.move rfl rfl rfl rfl rfl rfl ?_
  refine EW.move rfl rfl rfl rfl rfl rfl ?_
  refine EW.move rfl rfl rfl rfl rfl rfl ?_
  refine EW.bin rfl rfl rfl rfl rfl rfl rfl BV.neb ?_
  rw [beq_self_eq_true]
  refine EW.pick rfl rfl rfl rfl rfl rfl rfl ?_
  refine EW.move rfl rfl rfl rfl rfl rfl ?_
  refine EW.move rfl rfl rfl rfl rfl rfl ?_
  refine EW.move rfl rfl rfl rfl rfl rfl ?_
  refine EW.callT1 (same_spec _ _ _ _ _ (firstC g.E xss).1 (firstC g.E xss).1 (hs.sl 3 rfl) (hs.sl 2 rfl) (by omega) (by omega)) rfl rfl rfl rfl rfl Tryz.func13 bd13 nm13 rfl ?_
  intro v45 w hk45 hp45
  subst hp45
  replace hs := hs.stay hk45
  rw [decide_eq_true rfl]
  refine EW.not rfl rfl rfl rfl rfl rfl ?_
  refine EW.pick rfl rfl rfl rfl rfl rfl rfl ?_
  refine EW.move rfl rfl rfl rfl rfl rfl ?_
  refine EW.move rfl rfl rfl rfl rfl rfl ?_
  refine EW.move rfl rfl rfl rfl rfl rfl ?_
  refine EW.nilCheck rfl rfl rfl rfl rfl rfl ?_
  first | refine EW.fieldAddr rfl rfl rfl rfl rfl rfl ?_ | refine EW.fieldAddrA rfl rfl rfl rfl rfl rfl ?_
  refine EW.loadP rfl rfl rfl rfl rfl rfl (hs.ld1 9 rfl rfl) (.inr (fun h => h)) ?_
  refine EW.callT1 (Nodes_spec _ b mb ps g (PGA.of hs 6 7 8 rfl rfl rfl) hps hok (by omega) hgs.nm (hgl.stay hs.keep)) rfl rfl rfl rfl rfl Tryz.func14 bd14 nm14 rfl ?_
  intro v50 w hk50 hp50
  replace hs := hs.fresh hk50 hp50
  obtain ⟨A50, c50, rfl, _⟩ := own_sl (hs.res 0 rfl)
  refine EW.callT1 (Rising_spec _ AN cN g.N (hs.sl 11 rfl) (by omega) hgs.nm) rfl rfl rfl rfl rfl Tryz.func15 bd15 nm15 rfl ?_
  intro v55 w hk55 hp55
  replace hs := hs.fresh hk55 hp55
  obtain ⟨A55, c55, rfl, _⟩ := own_sl (hs.res 0 rfl)
  refine EW.callT1 (same_spec _ _ _ _ _ (risingL g.N) (risingL g.N) (hs.sl 1 rfl) (hs.sl 0 rfl) (by omega) (by omega)) rfl rfl rfl rfl rfl Tryz.func13 bd13 nm13 rfl ?_
  intro v56 w hk56 hp56
  subst hp56
  replace hs := hs.stay hk56
  rw [decide_eq_true rfl]
  refine EW.not rfl rfl rfl rfl rfl rfl ?_
  refine EW.pick rfl rfl rfl rfl rfl rfl rfl ?_
  refine EW.done ?_
  refine NW.seq ?_
  refine CW.cond_f rfl (rfl) ?_
  refine KW.skip ?_
  refine NW.seq ?_
  refine KW.seq ?_
  refine KW.seq ?_
  refine CW.region (S := noS) [(0, .q)] rfl ?_
  refine EW.assign rfl rfl rfl rfl rfl rfl ?_
  refine EW.done ?_
  refine NW.seq ?_
  refine KW.block ?_
  replace hs : St w0 noS w (pgR b mb ps ++ rgR b2 (.slice AN g.N.length cN) (.slice AE g.E.length cE) g) := hs.pick [8, 9, 10, 11, 12, 13] (by decide)
  refine KW.loop (ι := Nat) (fun k => g.N.length - k) (fun k => [(3, .pointer (some ⟨b, 0, none⟩)), (4, .pointer (some ⟨b2, 0, none⟩)), (10, .int .i64 (k : Int))]) (fun k w => k ≤ g.N.length ∧ St w0 noS w (pgR b mb ps ++ rgR b2 (.slice AN g.N.length cN) (.slice AE g.E.length cE) g)) 0 (by repeat (first | exact trivial | (refine ⟨by first | rfl | (congr 2; omega) | (simp; done) | (congr 1; simp; done), ?_⟩))) ?_ ?_
  · exact ⟨Nat.zero_le _, hs⟩
  clear hs
  rintro k w ⟨hk, hs⟩
  simp only [pgR, rgR, List.cons_append, List.nil_append] at hs
  refine KW.seq ?_
  refine KW.seq ?_
  refine CW.region (S := noS) [(0, .q), (1, .q), (2, .q), (3, .q), (4, .q), (5, .q), (6, .q)] rfl ?_
  refine EW.move rfl rfl rfl rfl rfl rfl ?_
  refine EW.move rfl rfl rfl rfl rfl rfl ?_
  refine EW.nilCheck rfl rfl rfl rfl rfl rfl ?_
  first | refine EW.fieldAddr rfl rfl rfl rfl rfl rfl ?_ | refine EW.fieldAddrA rfl rfl rfl rfl rfl rfl ?_
  refine EW.loadP rfl rfl rfl rfl rfl rfl (by first | assumption | (apply LDP.drew; assumption) | exact St.ld1 hs 0 rfl rfl | exact St.ldA hs 0 rfl rfl rfl | exact St.ld1 hs 1 rfl rfl | exact St.ldA hs 1 rfl rfl rfl | exact St.ld1 hs 2 rfl rfl | exact St.ldA hs 2 rfl rfl rfl | exact St.ld1 hs 3 rfl rfl | exact St.ldA hs 3 rfl rfl rfl | exact St.ld1 hs 4 rfl rfl | exact St.ldA hs 4 rfl rfl rfl | exact St.ld1 hs 5 rfl rfl | exact St.ldA hs 5 rfl rfl rfl | exact St.ld1 hs 6 rfl rfl | exact St.ldA hs 6 rfl rfl rfl) (by first | exact .inl rfl | exact .inr (fun h => h)) ?_
  refine EW.len rfl rfl rfl rfl rfl rfl ?_
  refine EW.bin rfl rfl rfl rfl rfl rfl rfl BV.lss ?_
  refine EW.done ?_
  refine NW.seq ?_
  by_cases hkn : k < g.N.length
  · refine CW.cond_t rfl (by simpa using hkn) ?_
    obtain ⟨an, rfl, _, hln⟩ := (hs.sl 4 rfl).at_ hkn
    have g1 : LDP Tryz.prog w 44 (an.add (((k : Nat) : Int).toNat * 2)) (encL g.N[k]) := hln k _ (by simp)
    have hol : (risingL (outOf g.E g.N[k])).length ≤ 120 := Nat.le_trans (length_risingL _) (Nat.le_trans (outOf_len _ _) hel)
    refine KW.skip ?_
    refine NW.seq ?_
    refine KW.seq ?_
    refine KW.block ?_
    refine KW.seq ?_
    refine CW.regionD (noS) [(0, .q), (1, .q), (2, .q), (3, .q), (4, .q), (5, .q), (6, .q), (7, .q), (9, .q), (10, .q), (11, .q), (12, .q), (13, .q), (14, .q), (15, .q), (16, .q), (8, .l), (17, .l), (18, .l), (19, .q)] mixed (by kernel_rfl) ?_
    replace hs := hs.drew
    refine EW.move rfl rfl rfl rfl rfl rfl ?_
    refine EW.move rfl rfl rfl rfl rfl rfl ?_
    refine EW.nilCheck rfl rfl rfl rfl rfl rfl ?_
    first | refine EW.fieldAddr rfl rfl rfl rfl rfl rfl ?_ | refine EW.fieldAddrA rfl rfl rfl rfl rfl rfl ?_
    refine EW.loadP rfl rfl rfl rfl rfl rfl (by first | assumption | (apply LDP.drew; assumption) | exact St.ld1 hs 0 rfl rfl | exact St.ldA hs 0 rfl rfl rfl | exact St.ld1 hs 1 rfl rfl | exact St.ldA hs 1 rfl rfl rfl | exact St.ld1 hs 2 rfl rfl | exact St.ldA hs 2 rfl rfl rfl | exact St.ld1 hs 3 rfl rfl | exact St.ldA hs 3 rfl rfl rfl | exact St.ld1 hs 4 rfl rfl | exact St.ldA hs 4 rfl rfl rfl | exact St.ld1 hs 5 rfl rfl | exact St.ldA hs 5 rfl rfl rfl | exact St.ld1 hs 6 rfl rfl | exact St.ldA hs 6 rfl rfl rfl) (by first | exact .inl rfl | exact .inr (fun h => h)) ?_
    refine EW.move rfl rfl rfl rfl rfl rfl ?_
    refine EW.indexAddr rfl rfl rfl rfl rfl rfl rfl (by omega) (by omega) ?_
    refine EW.loadP rfl rfl rfl rfl rfl rfl (by first | assumption | (apply LDP.drew; assumption) | exact St.ld1 hs 0 rfl rfl | exact St.ldA hs 0 rfl rfl rfl | exact St.ld1 hs 1 rfl rfl | exact St.ldA hs 1 rfl rfl rfl | exact St.ld1 hs 2 rfl rfl | exact St.ldA hs 2 rfl rfl rfl | exact St.ld1 hs 3 rfl rfl | exact St.ldA hs 3 rfl rfl rfl | exact St.ld1 hs 4 rfl rfl | exact St.ldA hs 4 rfl rfl rfl | exact St.ld1 hs 5 rfl rfl | exact St.ldA hs 5 rfl rfl rfl | exact St.ld1 hs 6 rfl rfl | exact St.ldA hs 6 rfl rfl rfl) (by first | exact .inl rfl | exact .inr (fun h => h)) ?_
    refine EW.move rfl rfl rfl rfl rfl rfl ?_
    refine EW.move rfl rfl rfl rfl rfl rfl ?_
    refine EW.nilCheck rfl rfl rfl rfl rfl rfl ?_
    first | refine EW.fieldAddr rfl rfl rfl rfl rfl rfl ?_ | refine EW.fieldAddrA rfl rfl rfl rfl rfl rfl ?_
    refine EW.loadP rfl rfl rfl rfl rfl rfl (by first | assumption | (apply LDP.drew; assumption) | exact St.ld1 hs 0 rfl rfl | exact St.ldA hs 0 rfl rfl rfl | exact St.ld1 hs 1 rfl rfl | exact St.ldA hs 1 rfl rfl rfl | exact St.ld1 hs 2 rfl rfl | exact St.ldA hs 2 rfl rfl rfl | exact St.ld1 hs 3 rfl rfl | exact St.ldA hs 3 rfl rfl rfl | exact St.ld1 hs 4 rfl rfl | exact St.ldA hs 4 rfl rfl rfl | exact St.ld1 hs 5 rfl rfl | exact St.ldA hs 5 rfl rfl rfl | exact St.ld1 hs 6 rfl rfl | exact St.ldA hs 6 rfl rfl rfl) (by first | exact .inl rfl | exact .inr (fun h => h)) ?_
    refine EW.move rfl rfl rfl rfl rfl rfl ?_
    refine EW.indexAddr rfl rfl rfl rfl rfl rfl rfl (by omega) (by omega) ?_
    refine EW.loadP rfl rfl rfl rfl rfl rfl (by first | assumption | (apply LDP.drew; assumption) | exact St.ld1 hs 0 rfl rfl | exact St.ldA hs 0 rfl rfl rfl | exact St.ld1 hs 1 rfl rfl | exact St.ldA hs 1 rfl rfl rfl | exact St.ld1 hs 2 rfl rfl | exact St.ldA hs 2 rfl rfl rfl | exact St.ld1 hs 3 rfl rfl | exact St.ldA hs 3 rfl rfl rfl | exact St.ld1 hs 4 rfl rfl | exact St.ldA hs 4 rfl rfl rfl | exact St.ld1 hs 5 rfl rfl | exact St.ldA hs 5 rfl rfl rfl | exact St.ld1 hs 6 rfl rfl | exact St.ldA hs 6 rfl rfl rfl) (by first | exact .inl rfl | exact .inr (fun h => h)) ?_
    refine EW.callT1 (Out_spec _ b mb ps g g.N[k] (PGA.of hs 0 1 2 rfl rfl rfl) hps hok (by omega)) rfl rfl rfl rfl rfl Tryz.func16 bd16 nm16 rfl ?_
    intro v76 w hk76 hp76
    replace hs := hs.fresh hk76 hp76
    obtain ⟨A76, c76, rfl, _⟩ := own_sl (hs.res 0 rfl)
    refine EW.callT1 (ROut_spec _ b2 (some an) cN AE cE g g.N[k] (RGA.of hs 4 5 6 rfl rfl rfl) hg1) rfl rfl rfl rfl rfl Tryz.func17 bd17 nm17 rfl ?_
    intro v85 w hk85 hp85
    replace hs := hs.fresh hk85 hp85
    obtain ⟨A85, c85, rfl, _⟩ := own_sl (hs.res 0 rfl)
    refine EW.callT1 (same_spec _ _ _ _ _ (risingL (outOf g.E g.N[k])) (risingL (outOf g.E g.N[k])) (hs.sl 1 rfl) (hs.sl 0 rfl) (by omega) (by omega)) rfl rfl rfl rfl rfl Tryz.func13 bd13 nm13 rfl ?_
    intro v86 w hk86 hp86
    subst hp86
    replace hs := hs.stay hk86
    rw [decide_eq_true rfl]
    refine EW.not rfl rfl rfl rfl rfl rfl ?_
    refine EW.done ?_
    refine NW.seq ?_
    refine CW.cond_f rfl (rfl) ?_
    refine KW.skip ?_
    refine NW.blk ?_
    refine NW.seq ?_
    refine CW.region (S := noS) [(0, .q), (1, .q), (2, .q)] rfl ?_
    refine EW.move rfl rfl rfl rfl rfl rfl ?_
    refine EW.bin rfl rfl rfl rfl rfl rfl rfl (BV.add (wrap_i64 (by omega) (by omega))) ?_
    refine EW.assign rfl rfl rfl rfl rfl rfl ?_
    refine EW.done ?_
    refine NW.again (k + 1) (by first | assumption | (dsimp only; omega) | omega | (simp; omega)) (by repeat (first | exact trivial | (refine ⟨by first | rfl | (congr 2; omega) | (simp; done) | (congr 1; simp; done), ?_⟩))) ?_
    try dsimp only
    exact ⟨hkn, hs.pick [2, 3, 4, 5, 6, 7] (by decide)⟩
  · refine CW.cond_f rfl (by simpa using hkn) ?_
    refine KW.exit ?_
    refine XW.seq ?_
    refine XW.inv ?_
    refine XW.blk ?_
    refine NW.seq ?_
    refine KW.seq ?_
    refine CW.region (S := noS) [(0, .q)] rfl ?_
    refine EW.assign rfl rfl rfl rfl rfl rfl ?_
    refine EW.done ?_
    refine NW.seq ?_
    refine KW.ret1 rfl rfl ?_
    refine ⟨_, rfl, hs.keep, ?_⟩
    rfl
end Go.Cw.Tryz
