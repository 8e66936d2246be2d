/- Proved here, as a part of the claim: how the code of the program walks (CwCA, CwCB). -/
import Derived.Test.YtbnjfehippbbfaaGreatDoorGg
import Derived.Test.YtbnjfehippbbfaaGreatDoorGb
set_option linter.unusedVariables false
set_option linter.unusedSimpArgs false
namespace Go.Cw.Tryz
open Go.Proofs Go.Cw
attribute [local irreducible] Go.Addr.add
/-! ### Rings and chains: their parts. No program. -/
theorem RG.node_mem (g : RG) (a z : Lab) : z ∈ (g.node a).N ↔ z ∈ g.N ∨ z = a := by
  unfold RG.node; split
  · rename_i h
    exact ⟨.inl, fun hh => hh.elim id fun e => by rw [e]; exact h⟩
  · simp
theorem RG.edge_memN (g : RG) (a x z : Lab) : z ∈ (g.edge a x).N ↔ z ∈ g.N ∨ z = a ∨ z = x := by
  have : (g.edge a x).N = ((g.node a).node x).N := by rw [RG.edge_eq]; split <;> rfl
  rw [this, RG.node_mem, RG.node_mem, or_assoc]
theorem RG.edge_memE (g : RG) (a x : Lab) (e : Edg) : e ∈ (g.edge a x).E ↔ e ∈ g.E ∨ e = (a, x) := by
  rw [RG.edge_eq]; split
  · rename_i h
    rw [RG.node_E, RG.node_E]
    exact ⟨.inl, fun hh => hh.elim id fun e => by rw [e]; exact h⟩
  · simp
def gE (es : List Edg) : RG := es.foldl (fun g e => g.edge e.1 e.2) ⟨[], []⟩
theorem gE_snoc (es : List Edg) (e : Edg) : gE (es ++ [e]) = (gE es).edge e.1 e.2 := by simp [gE]
theorem fold_mem (es : List Edg) : ∀ g : RG, (∀ e, e ∈ (es.foldl (fun g e => g.edge e.1 e.2) g).E ↔ e ∈ g.E ∨ e ∈ es) ∧ (∀ a, a ∈ (es.foldl (fun g e => g.edge e.1 e.2) g).N ↔ a ∈ g.N ∨ ∃ e ∈ es, a = e.1 ∨ a = e.2) := by
  induction es with
  | nil => intro g; simp
  | cons x r ih =>
    intro g
    obtain ⟨h1, h2⟩ := ih (g.edge x.1 x.2)
    refine ⟨fun e => ?_, fun a => ?_⟩
    · rw [List.foldl_cons, h1, RG.edge_memE, List.mem_cons, or_assoc]
    · rw [List.foldl_cons, h2, RG.edge_memN]
      simp [or_assoc]
theorem gE_E (es : List Edg) (e : Edg) : e ∈ (gE es).E ↔ e ∈ es := by rw [gE, (fold_mem es _).1]; simp
theorem gE_N (es : List Edg) (a : Lab) : a ∈ (gE es).N ↔ ∃ e ∈ es, a = e.1 ∨ a = e.2 := by rw [gE, (fold_mem es _).2]; simp
theorem gE_good (es : List Edg) (h : ∀ e ∈ es, Cw.Sm e.1 ∧ Cw.Sm e.2) : (gE es).Ok ∧ (gE es).Sm (2 * es.length) := by
  have gen : ∀ (es : List Edg) (g : RG) (k : Nat), g.Ok → g.Sm k → (∀ e ∈ es, Cw.Sm e.1 ∧ Cw.Sm e.2) → (es.foldl (fun g e => g.edge e.1 e.2) g).Ok ∧ (es.foldl (fun g e => g.edge e.1 e.2) g).Sm (k + 2 * es.length) := by
    intro es
    induction es with
    | nil => intro g k h1 h2 _; exact ⟨h1, h2⟩
    | cons x r ih =>
      intro g k h1 h2 h3
      obtain ⟨h4, h5⟩ := h3 x (by simp)
      have := ih (g.edge x.1 x.2) (k + 2) (h1.edge _ _) (RG.edge_sm h2 h4 h5) fun e he => h3 e (by simp [he])
      refine ⟨this.1, this.2.mono ?_⟩
      simp only [List.length_cons]; omega
  have := gen es ⟨[], []⟩ 0 ⟨by simp, by simp, by simp⟩ ⟨by simp, by simp, by simp, by simp⟩ h
  rwa [Nat.zero_add] at this
/-- The i-th node. -/
def ndB (i : Nat) : List UInt8 := [UInt8.ofNat (97 + i / 256), UInt8.ofNat (97 + i / 16 % 16), UInt8.ofNat (97 + i % 16)]
def ndL (i : Nat) : Lab := ⟨⟨#[112]⟩, ⟨(ndB i).toArray⟩⟩
theorem ndL_sm (i : Nat) : Cw.Sm (ndL i) := ⟨by show 1 ≤ _; omega, by show 3 ≤ _; omega⟩
theorem ndL_inj {i j : Nat} (hi : i < 1024) (hj : j < 1024) (h : ndL i = ndL j) : i = j := by
  have h1 : ndB i = ndB j := congrArg (fun a : Lab => a.nm.data.toList) h
  simp only [ndB, List.cons.injEq, and_true] at h1
  obtain ⟨a, b, c⟩ := h1
  have a1 := congrArg UInt8.toNat a
  have b1 := congrArg UInt8.toNat b
  have c1 := congrArg UInt8.toNat c
  simp only [UInt8.toNat_ofNat'] at a1 b1 c1
  omega
def ringE (n k : Nat) : List Edg := (List.range k).map fun i => (ndL i, ndL ((i + 1) % n))
theorem ringE_succ (n k : Nat) : ringE n (k + 1) = ringE n k ++ [(ndL k, ndL ((k + 1) % n))] := by simp [ringE, List.range_succ]
theorem ringE_len (n k : Nat) : (ringE n k).length = k := by simp [ringE]
theorem ringE_sm (n k : Nat) : ∀ e ∈ ringE n k, Cw.Sm e.1 ∧ Cw.Sm e.2 := by
  intro e he
  obtain ⟨i, _, rfl⟩ := List.mem_map.1 he
  exact ⟨ndL_sm _, ndL_sm _⟩
theorem mem_ringE {n k : Nat} {e : Edg} : e ∈ ringE n k ↔ ∃ i, i < k ∧ e = (ndL i, ndL ((i + 1) % n)) := by
  simp only [ringE, List.mem_map, List.mem_range]
  exact ⟨fun ⟨i, h, e⟩ => ⟨i, h, e.symm⟩, fun ⟨i, h, e⟩ => ⟨i, h, e.symm⟩⟩
theorem nodes_nodup {n : Nat} (hn : n ≤ 1024) : ((List.range n).map ndL).Nodup := by
  rw [List.Nodup, List.pairwise_map]
  refine List.Pairwise.imp_of_mem ?_ (List.nodup_range (n := n))
  intro a b ha hb hne he
  rw [List.mem_range] at ha hb
  exact hne (ndL_inj (by omega) (by omega) he)
theorem len_nodes {l : List Lab} {n : Nat} (hn : n ≤ 1024) (hd : l.Nodup) (hm : ∀ a, a ∈ l ↔ a ∈ (List.range n).map ndL) : l.length = n := by
  have h1 := nodup_sub_len l ((List.range n).map ndL) hd fun a ha => (hm a).1 ha
  have h2 := nodup_sub_len ((List.range n).map ndL) l (nodes_nodup hn) fun a ha => (hm a).2 ha
  simp only [List.length_map, List.length_range] at h1 h2
  omega
theorem ring_N {n : Nat} (h2 : 2 ≤ n) (a : Lab) : a ∈ (gE (ringE n n)).N ↔ a ∈ (List.range n).map ndL := by
  rw [gE_N]
  constructor
  · rintro ⟨e, he, h⟩
    obtain ⟨i, hi, rfl⟩ := mem_ringE.1 he
    rcases h with rfl | rfl
    · exact List.mem_map.2 ⟨i, List.mem_range.2 hi, rfl⟩
    · exact List.mem_map.2 ⟨(i + 1) % n, List.mem_range.2 (Nat.mod_lt _ (by omega)), rfl⟩
  · intro h
    obtain ⟨i, hi, rfl⟩ := List.mem_map.1 h
    exact ⟨_, mem_ringE.2 ⟨i, List.mem_range.1 hi, rfl⟩, .inl rfl⟩
theorem chain_N {n : Nat} (h2 : 2 ≤ n) (a : Lab) : a ∈ (gE (ringE n (n - 1))).N ↔ a ∈ (List.range n).map ndL := by
  rw [gE_N]
  constructor
  · rintro ⟨e, he, h⟩
    obtain ⟨i, hi, rfl⟩ := mem_ringE.1 he
    rcases h with rfl | rfl
    · exact List.mem_map.2 ⟨i, List.mem_range.2 (by omega), rfl⟩
    · exact List.mem_map.2 ⟨(i + 1) % n, List.mem_range.2 (Nat.mod_lt _ (by omega)), rfl⟩
  · intro h
    obtain ⟨i, hi, rfl⟩ := List.mem_map.1 h
    rw [List.mem_range] at hi
    by_cases hl : i < n - 1
    · exact ⟨_, mem_ringE.2 ⟨i, hl, rfl⟩, .inl rfl⟩
    · refine ⟨_, mem_ringE.2 ⟨n - 2, by omega, rfl⟩, .inr ?_⟩
      show ndL i = ndL ((n - 2 + 1) % n)
      rw [Nat.mod_eq_of_lt (by omega)]
      congr 1; omega
theorem sorted_nodup {p : List Lab} (h : SortedL p) : p.Nodup := h.imp fun {a b} h e => by rw [e, lt_irrefl] at h; cases h
theorem ring_law {n : Nat} (h2 : 2 ≤ n) (hn : n ≤ 1024) {xss : List (List Lab)} (h : IsParts (gE (ringE n n)).N (gE (ringE n n)).E xss) :
    xss.length = 1 ∧ (firstC (gE (ringE n n)).E xss).2 = true ∧ (firstC (gE (ringE n n)).E xss).1.length = n := by
  have hed : ∀ i, i < n → (ndL i, ndL ((i + 1) % n)) ∈ (gE (ringE n n)).E := fun i hi => (gE_E _ _).2 (mem_ringE.2 ⟨i, hi, rfl⟩)
  have hfrom : ∀ i, i < n → Rc (gE (ringE n n)).E (ndL 0) (ndL i) := by
    intro i
    induction i with
    | zero => intro _; exact Rc.refl _ _
    | succ i ih =>
      intro hi
      have := hed i (by omega)
      rw [Nat.mod_eq_of_lt hi] at this
      exact (ih (by omega)).step this
  have hto : ∀ d i, i + d = n → i < n → Rc (gE (ringE n n)).E (ndL i) (ndL 0) := by
    intro d
    induction d with
    | zero => intro i h1 h2; omega
    | succ d ih =>
      intro i h1 h2
      have he := hed i h2
      by_cases hl : i + 1 = n
      · rw [hl, Nat.mod_self] at he; exact Rc.one he
      · rw [Nat.mod_eq_of_lt (by omega)] at he
        exact Rc.trans (Rc.one he) (ih (i + 1) (by omega) (by omega))
  have hall : ∀ p ∈ xss, ∀ b, b ∈ p ↔ b ∈ (List.range n).map ndL := by
    intro p hp b
    rw [← ring_N h2]
    refine ⟨fun hb => (h.all b).2 ⟨p, hp, hb⟩, fun hb => ?_⟩
    obtain ⟨a, ha⟩ : ∃ a, a ∈ p := by
      cases hpe : p with
      | nil => exact absurd hpe (h.ne p hp)
      | cons y t => exact ⟨y, by simp⟩
    have haN := (h.all a).2 ⟨p, hp, ha⟩
    rw [ring_N h2] at haN hb
    obtain ⟨i, hi, rfl⟩ := List.mem_map.1 haN
    obtain ⟨j, hj, rfl⟩ := List.mem_map.1 hb
    rw [List.mem_range] at hi hj
    exact (h.cls p hp _ ha _).2 ⟨(hto (n - i) i (by omega) hi).trans (hfrom j hj), (hto (n - j) j (by omega) hj).trans (hfrom i hi)⟩
  have hlen : ∀ p ∈ xss, p.length = n := fun p hp => len_nodes hn (sorted_nodup (h.sorted p hp)) (hall p hp)
  match hx : xss, h with
  | [], h =>
    have : ndL 0 ∈ (gE (ringE n n)).N := (ring_N h2 _).2 (List.mem_map.2 ⟨0, List.mem_range.2 (by omega), rfl⟩)
    obtain ⟨p, hp, _⟩ := (h.all _).1 this
    cases hp
  | [p], h =>
    have h3 := hlen p (by simp)
    have h4 : holdsC (gE (ringE n n)).E p = true := by
      have : decide (1 < p.length) = true := decide_eq_true (by omega)
      simp only [holdsC, this, Bool.true_or]
    have h5 : firstC (gE (ringE n n)).E [p] = (p, true) := by
      simp only [firstC, List.find?_cons, h4]
    rw [h5]
    exact ⟨rfl, rfl, h3⟩
  | p :: q :: r, h =>
    exfalso
    have ho := (List.pairwise_cons.1 h.order).1 q (by simp)
    obtain ⟨a, t, rfl⟩ : ∃ a t, p = a :: t := by
      cases hpe : p with
      | nil => exact absurd hpe (h.ne p (by simp))
      | cons y t => exact ⟨y, t, rfl⟩
    have ha : a ∈ q := (hall q (by simp) a).2 ((hall (a :: t) (by simp) a).1 (by simp))
    have he := part_eq h h (p := a :: t) (q := q) (by simp) (by simp) (a := a) (by simp) ha
    rw [← he] at ho
    have := ho a (by simp) a (by simp)
    rw [lt_irrefl] at this; cases this
theorem chain_law {n : Nat} (h2 : 2 ≤ n) (hn : n ≤ 1024) {xss : List (List Lab)} (h : IsParts (gE (ringE n (n - 1))).N (gE (ringE n (n - 1))).E xss) (hd : (gE (ringE n (n - 1))).N.Nodup) :
    xss.length = n ∧ (firstC (gE (ringE n (n - 1))).E xss) = ([], false) := by
  have hed : ∀ a b, (a, b) ∈ (gE (ringE n (n - 1))).E → ∃ i, i + 1 < n ∧ a = ndL i ∧ b = ndL (i + 1) := by
    intro a b he
    obtain ⟨i, hi, e⟩ := mem_ringE.1 ((gE_E _ _).1 he)
    rw [Nat.mod_eq_of_lt (by omega)] at e
    injection e with e1 e2
    exact ⟨i, by omega, e1, e2⟩
  have hle : ∀ i b, i < n → Rc (gE (ringE n (n - 1))).E (ndL i) b → ∃ j, j < n ∧ i ≤ j ∧ b = ndL j := by
    intro i b hi hr
    unfold Rc at hr
    induction hr with
    | base x hx => exact ⟨i, hi, Nat.le_refl _, hx⟩
    | step x y _ he ih =>
      obtain ⟨j, h3, h4, h5⟩ := ih
      obtain ⟨k, h6, h7, h8⟩ := hed x y he
      have : j = k := ndL_inj (by omega) (by omega) (h5.symm.trans h7)
      exact ⟨k + 1, h6, by omega, h8⟩
  have hone : ∀ p ∈ xss, ∀ a ∈ p, ∀ b ∈ p, a = b := by
    intro p hp a ha b hb
    have haN := (h.all a).2 ⟨p, hp, ha⟩
    have hbN := (h.all b).2 ⟨p, hp, hb⟩
    rw [chain_N h2] at haN hbN
    obtain ⟨i, hi, rfl⟩ := List.mem_map.1 haN
    obtain ⟨j, hj, rfl⟩ := List.mem_map.1 hbN
    rw [List.mem_range] at hi hj
    obtain ⟨h3, h4⟩ := (h.cls p hp _ ha _).1 hb
    obtain ⟨j1, h5, h6, h7⟩ := hle i _ hi h3
    obtain ⟨i1, h8, h9, h10⟩ := hle j _ hj h4
    have e1 := ndL_inj (by omega) (by omega) h7
    have e2 := ndL_inj (by omega) (by omega) h10
    congr 1; omega
  have hsing : ∀ p ∈ xss, ∃ a, p = [a] := by
    intro p hp
    have hs := h.sorted p hp
    have h1 := hone p hp
    match hpe : p, hs with
    | [], _ => exact absurd rfl (h.ne [] hp)
    | [a], _ => exact ⟨a, rfl⟩
    | a :: b :: r, hs =>
      have := (List.pairwise_cons.1 hs).1 b (by simp)
      rw [h1 a (by simp) b (by simp), lt_irrefl] at this; cases this
  have hN : (gE (ringE n (n - 1))).N.length = n := len_nodes hn hd (chain_N h2)
  have hup := parts_num h
  have hdn : (gE (ringE n (n - 1))).N.length ≤ (xss.filterMap List.head?).length := nodup_sub_len _ _ hd fun a ha => by
    obtain ⟨p, hp, hap⟩ := (h.all a).1 ha
    obtain ⟨b, rfl⟩ := hsing p hp
    rw [List.mem_singleton] at hap
    subst hap
    exact List.mem_filterMap.2 ⟨[a], hp, rfl⟩
  have hfl := List.length_filterMap_le List.head? xss
  refine ⟨by omega, ?_⟩
  have hf : xss.find? (holdsC (gE (ringE n (n - 1))).E) = none := List.find?_eq_none.2 fun p hp hh => by
    obtain ⟨a, rfl⟩ := hsing p hp
    have hne : (a, a) ∉ (gE (ringE n (n - 1))).E := fun he => by
      obtain ⟨i, h3, h4, h5⟩ := hed a a he
      have := ndL_inj (by omega) (by omega) (h4.symm.trans h5)
      omega
    simp [holdsC, hne] at hh
  rw [firstC, hf]
end Go.Cw.Tryz
set_option linter.unusedVariables false
set_option linter.unusedSimpArgs false
namespace Go.Cw.Tryz
open Go.Proofs Go.Cw Go.Shelf Go.Sort
attribute [local irreducible] Go.Addr.add
def elB : El Tryz.prog UInt8 := {
  ty := 5
  size := 1
  bytes := 1
  enc := fun x => .int .u8 ((x.toNat : Nat) : Int)
  zero := .int .u8 0
  info := by kernel_rfl
  zsize := rfl
  pos := by decide
  posb := by decide
  cells := fun _ => rfl
  one := fun x u hu => by
    obtain rfl : u = .int .u8 ((x.toNat : Nat) : Int) := by simpa [Value.cells] using hu
    rfl
  ld := fun w p x h => LD.one (by simpa [Addr.add] using h 0 (.int .u8 ((x.toNat : Nat) : Int)) rfl) }
/-- The i-th mark. -/
def mkL (i : Nat) : Lab := ⟨⟨#[109]⟩, ⟨[UInt8.ofNat i].toArray⟩⟩
theorem build44b (s t : ByteArray) : ∀ w, (Instr.build 44 [(0, .string s), (1, .string t)].toArray).run Tryz.prog w = .ok (.agg #[.string s, .string t]) w := fun w => by kernel_rfl
/-- The rows ahead of i are full of their marks. -/
def Mk (ts : List (SV × List Lab)) (i : Nat) : Prop := ∀ (j : Nat) p, ts[j]? = some p → j < i → ∀ x ∈ p.2, x = mkL j
theorem Mk.set {ts : List (SV × List Lab)} {i : Nat} (h : Mk ts i) (q : SV × List Lab) : Mk (ts.set i q) i := fun j p hp hj => by
  rw [List.getElem?_set_ne (by omega)] at hp
  exact h j p hp hj
theorem map_set_same {α β : Type} (f : α → β) (l : List α) (i : Nat) (q : α) (h : (l.map f)[i]? = some (f q)) : (l.set i q).map f = l.map f := by
  rw [List.map_set]
  apply List.ext_getElem?
  intro j
  by_cases hj : i = j
  · subst hj
    rw [List.getElem?_set_self (List.getElem?_eq_some_iff.1 h).1, h]
  · rw [List.getElem?_set_ne hj]
theorem take_set_all {α : Type} {ys : List α} {k : Nat} {m : α} (h : ∀ x ∈ ys.take k, x = m) : ∀ x ∈ (ys.set k m).take (k + 1), x = m := by
  intro x hx
  obtain ⟨j, hj⟩ := List.mem_iff_getElem?.1 hx
  rw [List.getElem?_take] at hj
  split at hj
  · by_cases hjk : k = j
    · subst hjk
      rw [List.getElem?_set] at hj
      simp only [if_true] at hj
      split at hj
      · injection hj with hj; exact hj.symm
      · cases hj
    · rw [List.getElem?_set_ne hjk] at hj
      refine h x (List.mem_iff_getElem?.2 ⟨j, ?_⟩)
      rw [List.getElem?_take, if_pos (by omega)]; exact hj
  · cases hj
/-- A list, the list that is longer by one, and what stands in them. -/
abbrev DR := SV × SV × List Lab × List Lab
def fD (x : DR) : Res := pairR elL (svV x.1) (svV x.2.1) x.2.2.1 x.2.2.2
structure DoneOk (svs : List SV) (i : Nat) (done : List DR) : Prop where
  len : done.length = i
  at_ : ∀ (j : Nat) x, done[j]? = some x → svs[j]? = some x.1 ∧ (∀ a ∈ x.2.2.1, a = mkL j) ∧ (∀ a ∈ x.2.2.2, a = mkL j) ∧ x.2.2.2.length ≤ 121
theorem DoneOk.snoc {svs : List SV} {i : Nat} {done : List DR} (h : DoneOk svs i done) (x : DR) (h1 : svs[i]? = some x.1) (h2 : ∀ a ∈ x.2.2.1, a = mkL i) (h3 : ∀ a ∈ x.2.2.2, a = mkL i) (h4 : x.2.2.2.length ≤ 121) : DoneOk svs (i + 1) (done ++ [x]) := by
  refine ⟨by simp [h.len], fun j y hy => ?_⟩
  by_cases hj : j < done.length
  · rw [List.getElem?_append_left hj] at hy; exact h.at_ j y hy
  · rw [List.getElem?_append_right (by omega)] at hy
    have : j = i := by
      have := (List.getElem?_eq_some_iff.1 hy).1
      simp at this; have := h.len; omega
    subst this
    rw [h.len, Nat.sub_self] at hy
    simp at hy; subst hy
    exact ⟨h1, h2, h3, h4⟩

set_option maxHeartbeats 4000000 in
theorem CycleFresh_spec (w0 : World) (A : Option Addr) (c : Nat) (xs : List Edi) (many : Int) (hx : SlA elD w0 A xs) (hl : xs.length ≤ 10000000) (hsm : ∀ x ∈ xs, SmD x) (hgl : GL w0) :
    T1 Tryz.prog 4 [.slice A xs.length c, .int .i64 many] w0 fun v w' => v = .bool true := by
  obtain ⟨hok, hgs⟩ := madeG_good (xs.take 60) (fun x hx => hsm x (List.mem_of_mem_take hx))
  replace hgs := hgs.mono (l := 120) (by have := List.length_take_le 60 xs; omega)
  obtain ⟨g, hge⟩ : ∃ g, g = madeG (xs.take 60) := ⟨_, rfl⟩
  rw [← hge] at hok hgs
  have hnl : g.N.length ≤ 120 := hgs.n
  have hbig := hgs.big (by decide)
  have hg1 : g.Sm 1000 := hgs.mono (by decide)
  refine KW.enterT1 (n := 284) Tryz.func4 rfl rfl rfl ?_
  have hs := St.init w0 noS
  refine KW.seq ?_
  refine CW.region (S := noS) [(0, .q)] rfl ?_
  refine EW.assign rfl rfl rfl rfl rfl rfl ?_
  refine EW.done ?_
  refine NW.seq ?_
  refine KW.seq ?_
  refine KW.seq ?_
  refine CW.region (S := noS) [(0, .l), (1, .q)] rfl ?_
  refine EW.callT1 (head_spec _ (hgl.stay hs.keep)) rfl rfl rfl rfl rfl Tryz.func6 bd6 nm6 rfl ?_
  intro v32 w hk32 hp32
  subst hp32
  replace hs := hs.stay hk32
  refine EW.not rfl rfl rfl rfl rfl rfl ?_
  refine EW.done ?_
  refine NW.seq ?_
  refine CW.cond_f rfl (rfl) ?_
  refine KW.skip ?_
  refine NW.seq ?_
  refine KW.seq ?_
  refine CW.region (S := noS) [(0, .q), (1, .l), (2, .q), (3, .q), (4, .q), (5, .q), (6, .q)] rfl ?_
  refine EW.move rfl rfl rfl rfl rfl rfl ?_
  refine EW.callT1 (made_spec _ _ _ xs (hx.stay hs.keep) hl hsm (hgl.stay hs.keep)) rfl rfl rfl rfl rfl Tryz.func7 bd7 nm7 rfl ?_
  intro v36 w hk36 hp36
  obtain ⟨b, mb, ps, b2, vN, vE, rfl, hps, hst⟩ := hp36
  replace hs := hs.plus hst
  clear hst
  rw [← hge] at hps hs
  refine EW.move rfl rfl rfl rfl rfl rfl ?_
  refine EW.extract rfl rfl rfl rfl rfl rfl rfl ?_
  refine EW.extract rfl rfl rfl rfl rfl rfl rfl ?_
  refine EW.assign rfl rfl rfl rfl rfl rfl ?_
  refine EW.assign rfl rfl rfl rfl rfl rfl ?_
  refine EW.done ?_
  refine NW.seq ?_
  refine KW.seq ?_
  refine KW.seq ?_
  refine CW.region (S := noS) [(0, .q), (1, .q)] rfl ?_
  refine EW.move rfl rfl rfl rfl rfl rfl ?_
  refine EW.bin rfl rfl rfl rfl rfl rfl rfl BV.ptr_eqnil ?_
  refine EW.done ?_
  refine NW.seq ?_
  refine CW.cond_f rfl (rfl) ?_
  rw [List.append_nil] at hs
  simp only [pgR, rgR, List.cons_append, List.nil_append] at hs
  obtain ⟨AN, cN, rfl, _⟩ := own_sl (hs.res 4 rfl)
  obtain ⟨AE, cE, rfl, _⟩ := own_sl (hs.res 5 rfl)
  refine KW.skip ?_
  refine NW.seq ?_
  refine KW.seq ?_
  refine CW.region (S := noS) [(0, .q), (1, .l), (2, .q)] rfl ?_
  refine EW.move rfl rfl rfl rfl rfl rfl ?_
  refine EW.callT1 (RParts_spec _ b2 AN cN AE cE g (RGA.of hs 3 4 5 rfl rfl rfl) hg1 hok.wf) rfl rfl rfl rfl rfl Tryz.func12 bd12 nm12 rfl ?_
  intro v42 w hk42 hp42
  obtain ⟨xss, hip, qw, hqw, hst⟩ := hp42
  replace hs := hs.plus hst
  clear hst
  simp only [List.cons_append, List.nil_append] at hs
  obtain ⟨A42, c42, rfl, _⟩ := own_sl (hs.res 0 rfl)
  have hqwl : (qw.map (·.1)).length = qw.length := (by simp)
  rw [hqwl] at hs ⊢
  refine EW.assign rfl rfl rfl rfl rfl rfl ?_
  refine EW.done ?_
  refine NW.seq ?_
  refine KW.seq ?_
  refine CW.region (S := noS) [(0, .q), (1, .l), (2, .q), (3, .l), (4, .q), (5, .q)] rfl ?_
  refine EW.move rfl rfl rfl rfl rfl rfl ?_
  refine EW.callT1 (Parts_spec _ b mb ps g (PGA.of hs 2 3 4 rfl rfl rfl) hps hok hbig (by omega) hgs.nm (hgl.stay hs.keep)) rfl rfl rfl rfl rfl Tryz.func8 bd8 nm8 rfl ?_
  intro v44 w hk44 hp44
  obtain ⟨xss2, hip2, qa, hqa, hst⟩ := hp44
  rw [parts_unique hip2 hip] at hqa
  replace hs := hs.plus hst
  clear hst hip2
  simp only [List.cons_append, List.nil_append] at hs
  obtain ⟨A44, c44, rfl, _⟩ := own_sl (hs.res 0 rfl)
  have hqal : (qa.map (·.1)).length = qa.length := (by simp)
  rw [hqal] at hs ⊢
  refine EW.move rfl rfl rfl rfl rfl rfl ?_
  refine EW.callT1 (Parts_spec _ b mb ps g (PGA.of hs 4 5 6 rfl rfl rfl) hps hok hbig (by omega) hgs.nm (hgl.stay hs.keep)) rfl rfl rfl rfl rfl Tryz.func8 bd8 nm8 rfl ?_
  intro v46 w hk46 hp46
  obtain ⟨xss3, hip3, qb, hqb, hst⟩ := hp46
  rw [parts_unique hip3 hip] at hqb
  replace hs := hs.plus hst
  clear hst hip3
  simp only [List.cons_append, List.nil_append] at hs
  obtain ⟨A46, c46, rfl, _⟩ := own_sl (hs.res 0 rfl)
  have hqbl : (qb.map (·.1)).length = qb.length := (by simp)
  rw [hqbl] at hs ⊢
  refine EW.assign rfl rfl rfl rfl rfl rfl ?_
  refine EW.assign rfl rfl rfl rfl rfl rfl ?_
  refine EW.done ?_
  refine NW.seq ?_
  refine KW.seq ?_
  refine CW.region (S := noS) [(0, .q), (1, .l), (2, .q), (3, .q), (4, .q), (5, .q), (6, .q)] rfl ?_
  refine EW.move rfl rfl rfl rfl rfl rfl ?_
  refine EW.callT1 (First_spec _ b mb ps g (PGA.of hs 6 7 8 rfl rfl rfl) hps hok hbig (by omega) hgs.nm (hgl.stay hs.keep)) rfl rfl rfl rfl rfl Tryz.func9 bd9 nm9 rfl ?_
  intro v49 w hk49 hp49
  obtain ⟨xss4, hip4, ⟨A49, n49, c49⟩, rfl, hst⟩ := hp49
  rw [parts_unique hip4 hip] at hst ⊢
  replace hs := hs.plus hst
  clear hst hip4
  simp only [svV, List.cons_append, List.nil_append] at hs ⊢
  obtain rfl := (own_slA (hs.res 0 rfl)).2.1
  refine EW.move rfl rfl rfl rfl rfl rfl ?_
  refine EW.extract rfl rfl rfl rfl rfl rfl rfl ?_
  refine EW.extract rfl rfl rfl rfl rfl rfl rfl ?_
  refine EW.assign rfl rfl rfl rfl rfl rfl ?_
  refine EW.assign rfl rfl rfl rfl rfl rfl ?_
  refine EW.done ?_
  refine NW.seq ?_
  refine KW.seq ?_
  refine CW.region (S := noS) [(0, .q), (1, .l), (2, .q), (3, .q), (4, .q), (5, .q), (6, .q)] rfl ?_
  refine EW.move rfl rfl rfl rfl rfl rfl ?_
  refine EW.callT1 (RFirst_spec _ b2 AN cN AE cE g (RGA.of hs 10 11 12 rfl rfl rfl) hg1 hok.wf) rfl rfl rfl rfl rfl Tryz.func10 bd10 nm10 rfl ?_
  intro v54 w hk54 hp54
  obtain ⟨xss5, hip5, ⟨A54, n54, c54⟩, rfl, hst⟩ := hp54
  rw [parts_unique hip5 hip] at hst ⊢
  replace hs := hs.plus hst
  clear hst hip5
  simp only [svV, List.cons_append, List.nil_append] at hs ⊢
  obtain rfl := (own_slA (hs.res 0 rfl)).2.1
  refine EW.move rfl rfl rfl rfl rfl rfl ?_
  refine EW.extract rfl rfl rfl rfl rfl rfl rfl ?_
  refine EW.extract rfl rfl rfl rfl rfl rfl rfl ?_
  refine EW.assign rfl rfl rfl rfl rfl rfl ?_
  refine EW.assign rfl rfl rfl rfl rfl rfl ?_
  have hfl : (firstC g.E xss).1.length ≤ 120 := Nat.le_trans (first_len hip) hnl
  have hpn : xss.length ≤ 120 := Nat.le_trans (parts_num hip) hnl
  have hpl1 : ∀ p ∈ xss, p.length ≤ 120 := fun p hp => Nat.le_trans (part_len hip p hp) hnl
  have hpl : ∀ p ∈ xss, p.length ≤ 1000000 := fun p hp => Nat.le_trans (hpl1 p hp) (by omega)
  have hwn : qw.length ≤ 120 := by have := congrArg List.length hqw; simp only [List.length_map] at this; omega
  have han : qa.length ≤ 120 := by have := congrArg List.length hqa; simp only [List.length_map] at this; omega
  have hbn : qb.length ≤ 120 := by have := congrArg List.length hqb; simp only [List.length_map] at this; omega
  refine EW.done ?_
  refine NW.seq ?_
  refine KW.seq ?_
  refine KW.seq ?_
  refine CW.region (S := noS) [(0, .q), (1, .q), (2, .l), (3, .q), (4, .q), (5, .q), (6, .q), (7, .l), (8, .q), (9, .q), (10, .q), (11, .q), (12, .q), (13, .l), (14, .q), (15, .q)] rfl ?_
  refine EW.move rfl rfl rfl rfl rfl rfl ?_
  refine EW.move rfl rfl rfl rfl rfl rfl ?_
  refine EW.callT1 (sameAll_spec _ _ _ _ _ qa qw (RowsA.of hs 4 5 rfl rfl) (RowsA.of hs 6 7 rfl rfl) (by omega) (by omega) (fun p hp => hpl _ (by rw [← hqa]; exact List.mem_map.2 ⟨p, hp, rfl⟩)) (fun p hp => hpl _ (by rw [← hqw]; exact List.mem_map.2 ⟨p, hp, rfl⟩))) rfl rfl rfl rfl rfl Tryz.func11 bd11 nm11 rfl ?_
  intro v59 w hk59 hp59
  subst hp59
  replace hs := hs.stay hk59
  rw [decide_eq_true (hqa.trans hqw.symm)]
  refine EW.not rfl rfl rfl rfl rfl rfl ?_
  refine EW.move rfl rfl rfl rfl rfl rfl ?_
  refine EW.move rfl rfl rfl rfl rfl rfl ?_
  refine EW.move rfl rfl rfl rfl rfl rfl ?_
  refine EW.callT1 (sameAll_spec _ _ _ _ _ qb qw (RowsA.of hs 2 3 rfl rfl) (RowsA.of hs 6 7 rfl rfl) (by omega) (by omega) (fun p hp => hpl _ (by rw [← hqb]; exact List.mem_map.2 ⟨p, hp, rfl⟩)) (fun p hp => hpl _ (by rw [← hqw]; exact List.mem_map.2 ⟨p, hp, rfl⟩))) rfl rfl rfl rfl rfl Tryz.func11 bd11 nm11 rfl ?_
  intro v64 w hk64 hp64
  subst hp64
  replace hs := hs.stay hk64
  rw [decide_eq_true (hqb.trans hqw.symm)]
  refine EW.not rfl rfl rfl rfl rfl rfl ?_
  refine EW.pick rfl rfl rfl rfl rfl rfl rfl ?_
  refine EW.move rfl rfl rfl rfl rfl rfl ?_
  refine EW.move rfl rfl rfl rfl rfl rfl ?_
  refine EW.move rfl rfl rfl rfl rfl rfl ?_
  refine EW.callT1 (same_spec _ _ _ _ _ (firstC g.E xss).1 (firstC g.E xss).1 (hs.sl 1 rfl) (hs.sl 0 rfl) (by omega) (by omega)) rfl rfl rfl rfl rfl Tryz.func13 bd13 nm13 rfl ?_
  intro v70 w hk70 hp70
  subst hp70
  replace hs := hs.stay hk70
  rw [decide_eq_true rfl]
  refine EW.not rfl rfl rfl rfl rfl rfl ?_
  refine EW.pick rfl rfl rfl rfl rfl rfl rfl ?_
  refine EW.done ?_
  refine NW.seq ?_
  refine CW.cond_f rfl (rfl) ?_
  refine KW.skip ?_
  refine NW.seq ?_
  refine KW.seq ?_
  refine CW.region (S := noS) [(0, .l), (1, .q), (2, .l), (3, .q), (4, .l), (5, .q), (6, .l), (7, .l), (8, .q)] rfl ?_
  refine EW.lit0 elP hs rfl rfl rfl rfl rfl ?_
  clear hs; intro b73 w hs
  refine EW.move rfl rfl rfl rfl rfl rfl ?_
  refine EW.appendAny elP 0 (ys := qa.map (·.1)) hs rfl (hs.sl 5 rfl) (by show (0 + (qa.map (·.1)).length) * 24 ≤ 140737488355328; rw [hqal]; omega) (.inl rfl) rfl rfl rfl rfl rfl rfl (by rw [hqal]; rfl) ?_
  clear hs; intro v75 w hs; dsimp only [List.set, List.nil_append] at hs
  refine EW.move rfl rfl rfl rfl rfl rfl ?_
  refine EW.appendAny elP 0 (ys := qb.map (·.1)) hs rfl (hs.sl 3 rfl) (by show ((qa.map (·.1)).length + (qb.map (·.1)).length) * 24 ≤ 140737488355328; rw [hqal, hqbl]; omega) (.inl rfl) rfl rfl rfl rfl rfl rfl (by rw [hqbl]; rfl) ?_
  clear hs; intro v77 w hs; dsimp only [List.set] at hs
  refine EW.move rfl rfl rfl rfl rfl rfl ?_
  refine EW.lit1 elP (A49, (firstC g.E xss).1.length, c49) hs rfl rfl rfl rfl rfl rfl rfl ?_
  clear hs; intro b79 w hs
  refine EW.append1 elP 1 0 hs rfl rfl (by show ((qa.map (·.1) ++ qb.map (·.1)).length + 1) * 24 ≤ 140737488355328; rw [List.length_append, hqal, hqbl]; omega) (.inl rfl) rfl rfl rfl rfl rfl rfl rfl ?_
  clear hs; intro v80 w hs; dsimp only [List.set] at hs; replace hs := hs.tail
  refine EW.assign rfl rfl rfl rfl rfl rfl ?_
  obtain ⟨Aa, ca, rfl, _⟩ := own_sl (hs.res 0 rfl)
  replace hs : St w0 noS w (rows elL qa :: rows elL qb :: own elL (svV (A49, (firstC g.E xss).1.length, c49)) (firstC g.E xss).1 :: own elP (.slice Aa (qa.map (·.1) ++ qb.map (·.1) ++ [(A49, (firstC g.E xss).1.length, c49)]).length ca) (qa.map (·.1) ++ qb.map (·.1) ++ [(A49, (firstC g.E xss).1.length, c49)]) :: own elP (.slice A42 qw.length c42) (qw.map (·.1)) :: rows elL qw :: pgR b mb ps) := hs.pick [6, 4, 2, 0, 7, 8, 9, 10, 11] (by decide)
  replace hs := hs.rowsApp.rowAdd
  obtain ⟨rs, hrs⟩ : ∃ rs, rs = qa ++ qb ++ [((A49, (firstC g.E xss).1.length, c49), (firstC g.E xss).1)] := ⟨_, rfl⟩
  obtain ⟨svs, hsvs⟩ : ∃ svs : List SV, svs = rs.map (·.1) := ⟨_, rfl⟩
  have hsv : qa.map (·.1) ++ qb.map (·.1) ++ [(A49, (firstC g.E xss).1.length, c49)] = svs := by rw [hsvs, hrs]; simp
  rw [hsv, ← hrs] at hs
  rw [hsv]
  have hn : svs.length ≤ 241 := by rw [← hsv]; simp; omega
  have hrow : ∀ p ∈ rs, p.2.length ≤ 120 := by
    intro p hp
    rw [hrs] at hp
    rcases List.mem_append.1 hp with hp | hp
    · rcases List.mem_append.1 hp with hp | hp
      · exact hpl1 _ (by rw [← hqa]; exact List.mem_map.2 ⟨p, hp, rfl⟩)
      · exact hpl1 _ (by rw [← hqb]; exact List.mem_map.2 ⟨p, hp, rfl⟩)
    · rw [List.mem_singleton.1 hp]; exact hfl
  have hsl : ∀ (i : Nat) (s : SV), svs[i]? = some s → s.2.1 ≤ 120 := fun i s hi => by
    rw [hsvs, List.getElem?_map] at hi
    obtain ⟨p, hp, rfl⟩ := Option.map_eq_some_iff.1 hi
    rw [(hs.rowSl 0 rfl hp).2.1]; exact hrow p (List.mem_of_getElem? hp)
  clear hrow hsv
  refine EW.done ?_
  refine NW.seq ?_
  refine KW.seq ?_
  refine KW.seq ?_
  refine CW.region (S := noS) [(0, .q)] rfl ?_
  refine EW.assign rfl rfl rfl rfl rfl rfl ?_
  refine EW.done ?_
  refine NW.seq ?_
  refine KW.block ?_
  refine KW.loop (ι := Nat) (fun i => svs.length - i) (fun i => [(1, .int .i64 many), (5, .pointer (some ⟨b, 0, none⟩)), (7, .slice A42 qw.length c42), (14, .slice Aa svs.length ca), (15, .int .i64 (i : Int))]) (fun i w => i ≤ svs.length ∧ ∃ ts : List (SV × List Lab), ts.map (·.1) = svs ∧ Mk ts i ∧ St w0 noS w (rows elL ts :: own elP (.slice Aa svs.length ca) svs :: own elP (.slice A42 qw.length c42) (qw.map (·.1)) :: rows elL qw :: pgR b mb ps)) 0 (by repeat (first | exact trivial | (refine ⟨by first | rfl | (congr 2; omega) | (simp; done) | (congr 1; simp; done), ?_⟩))) ?_ ?_
  · exact ⟨Nat.zero_le _, rs, hsvs.symm, fun j p _ hj => absurd hj (Nat.not_lt_zero _), hs⟩
  clear hs hsvs hrs
  rintro i w ⟨hi, ts, hts, hmk, hs⟩
  have htl : ts.length = svs.length := by rw [← hts]; simp
  refine KW.seq ?_
  refine KW.seq ?_
  refine CW.region (S := noS) [(0, .q), (1, .q), (2, .q), (3, .q)] rfl ?_
  refine EW.move rfl rfl rfl rfl rfl rfl ?_
  refine EW.move rfl rfl rfl rfl rfl rfl ?_
  refine EW.len rfl rfl rfl rfl rfl rfl ?_
  refine EW.bin rfl rfl rfl rfl rfl rfl rfl BV.lss ?_
  refine EW.done ?_
  refine NW.seq ?_
  by_cases hin : i < svs.length
  · refine CW.cond_t rfl (by simpa using hin) ?_
    obtain ⟨⟨As, ls, cs⟩, hsi⟩ : ∃ s, svs[i]? = some s := ⟨_, List.getElem?_eq_getElem hin⟩
    have hls : ls ≤ 120 := hsl i _ hsi
    obtain ⟨aa, rfl, _, _⟩ := (hs.sl 1 rfl).at_ hin
    refine KW.skip ?_
    refine NW.seq ?_
    refine KW.seq ?_
    refine KW.block ?_
    refine KW.seq ?_
    refine CW.region (S := noS) [(0, .q)] rfl ?_
    refine EW.assign rfl rfl rfl rfl rfl rfl ?_
    refine EW.done ?_
    refine NW.seq ?_
    refine KW.block ?_
    refine KW.loop (ι := Nat) (fun k => ls - k) (fun k => [(1, .int .i64 many), (5, .pointer (some ⟨b, 0, none⟩)), (7, .slice A42 qw.length c42), (14, .slice (some aa) svs.length ca), (15, .int .i64 (i : Int)), (16, .int .i64 (k : Int))]) (fun k w => k ≤ ls ∧ ∃ ts : List (SV × List Lab), ts.map (·.1) = svs ∧ Mk ts i ∧ (∀ p, ts[i]? = some p → ∀ x ∈ p.2.take k, x = mkL i) ∧ St w0 noS w (rows elL ts :: own elP (.slice (some aa) svs.length ca) svs :: own elP (.slice A42 qw.length c42) (qw.map (·.1)) :: rows elL qw :: pgR b mb ps)) 0 (by repeat (first | exact trivial | (refine ⟨by first | rfl | (congr 2; omega) | (simp; done) | (congr 1; simp; done), ?_⟩))) ?_ ?_
    · exact ⟨Nat.zero_le _, ts, hts, hmk, fun p _ x hx => by simp at hx, hs⟩
    clear hs hmk hts htl
    clear ts
    rintro k w ⟨hk, ts, hts, hmk, hmk2, hs⟩
    have htl : ts.length = svs.length := by rw [← hts]; simp
    have gi : LDP Tryz.prog w 30 (aa.add (((i : Nat) : Int).toNat * 1)) (.slice As ls cs) := (hs.sl 1 rfl).el hsi
    obtain ⟨⟨s', ys⟩, hp⟩ : ∃ p, ts[i]? = some p := ⟨_, List.getElem?_eq_getElem (by omega)⟩
    obtain rfl : s' = (As, ls, cs) := by
      rw [← hts, List.getElem?_map, hp] at hsi
      simpa using hsi
    have hyl : ls = ys.length := (hs.rowSl 0 rfl hp).2.1
    refine KW.seq ?_
    refine KW.seq ?_
    refine CW.region (S := noS) [(0, .q), (1, .q), (2, .q), (3, .q), (4, .q), (5, .q), (6, .q)] rfl ?_
    refine EW.move rfl rfl rfl rfl rfl rfl ?_
    refine EW.move rfl rfl rfl rfl rfl rfl ?_
    refine EW.move rfl rfl rfl rfl rfl rfl ?_
    refine EW.indexAddr rfl rfl rfl rfl rfl rfl rfl (by omega) (by omega) ?_
    refine EW.loadP rfl rfl rfl rfl rfl rfl (by first | assumption | (apply LDP.drew; assumption) | exact St.ld1 hs 0 rfl rfl | exact St.ldA hs 0 rfl rfl rfl | exact St.ld1 hs 1 rfl rfl | exact St.ldA hs 1 rfl rfl rfl | exact St.ld1 hs 2 rfl rfl | exact St.ldA hs 2 rfl rfl rfl | exact St.ld1 hs 3 rfl rfl | exact St.ldA hs 3 rfl rfl rfl | exact St.ld1 hs 4 rfl rfl | exact St.ldA hs 4 rfl rfl rfl | exact St.ld1 hs 5 rfl rfl | exact St.ldA hs 5 rfl rfl rfl | exact St.ld1 hs 6 rfl rfl | exact St.ldA hs 6 rfl rfl rfl) (by first | exact .inl rfl | exact .inr (fun h => h)) ?_
    refine EW.len rfl rfl rfl rfl rfl rfl ?_
    refine EW.bin rfl rfl rfl rfl rfl rfl rfl BV.lss ?_
    refine EW.done ?_
    refine NW.seq ?_
    by_cases hkl : k < ls
    · refine CW.cond_t rfl (by simpa using hkl) ?_
      replace hs := hs.rowTake hp
      dsimp only at hs
      obtain ⟨ay, rfl, _, _⟩ := (hs.sl 0 rfl).at_ (i := k) (by omega)
      refine KW.skip ?_
      refine NW.seq ?_
      refine KW.seq ?_
      refine KW.block ?_
      refine CW.regionD (noS) [(0, .q), (1, .q), (2, .q), (3, .q), (4, .q), (5, .q), (6, .q), (7, .l), (8, .q), (9, .q), (10, .q), (11, .b)] mixed (by kernel_rfl) ?_
      replace hs := hs.drew
      refine EW.move rfl rfl rfl rfl rfl rfl ?_
      refine EW.move rfl rfl rfl rfl rfl rfl ?_
      refine EW.indexAddr rfl rfl rfl rfl rfl rfl rfl (by omega) (by omega) ?_
      refine EW.loadP rfl rfl rfl rfl rfl rfl (by first | assumption | (apply LDP.drew; assumption) | exact St.ld1 hs 0 rfl rfl | exact St.ldA hs 0 rfl rfl rfl | exact St.ld1 hs 1 rfl rfl | exact St.ldA hs 1 rfl rfl rfl | exact St.ld1 hs 2 rfl rfl | exact St.ldA hs 2 rfl rfl rfl | exact St.ld1 hs 3 rfl rfl | exact St.ldA hs 3 rfl rfl rfl | exact St.ld1 hs 4 rfl rfl | exact St.ldA hs 4 rfl rfl rfl | exact St.ld1 hs 5 rfl rfl | exact St.ldA hs 5 rfl rfl rfl | exact St.ld1 hs 6 rfl rfl | exact St.ldA hs 6 rfl rfl rfl) (by first | exact .inl rfl | exact .inr (fun h => h)) ?_
      refine EW.move rfl rfl rfl rfl rfl rfl ?_
      refine EW.move rfl rfl rfl rfl rfl rfl ?_
      refine EW.convI rfl rfl rfl rfl rfl rfl (wrap_u8 i) ?_
      refine EW.litN elB [UInt8.ofNat i] hs rfl rfl rfl rfl rfl rfl rfl rfl rfl rfl ?_
      clear hs; intro b103 w hs
      refine EW.convBS elB (fun _ => rfl) rfl Tryz.underlying5 (bs := [UInt8.ofNat i]) hs 0 rfl (.inr (fun h => h)) ?_
      refine EW.build (α := Unit) (pv := [(0, .string ⟨#[109]⟩), (1, .string ⟨[UInt8.ofNat i].toArray⟩)]) rfl rfl rfl rfl rfl rfl rfl (build44b _ _) ?_
      refine EW.indexAddr rfl rfl rfl rfl rfl rfl rfl (by omega) (by omega) ?_
      refine EW.storeElB elL (j := k) (z := mkL i) hs 1 (by omega) rfl rfl rfl rfl rfl rfl rfl ?_
      clear hs; intro w hs; dsimp only [List.set] at hs
      refine EW.done ?_
      refine NW.blk ?_
      refine NW.seq ?_
      refine CW.region (S := noS) [(0, .q), (1, .q), (2, .q)] rfl ?_
      refine EW.move rfl rfl rfl rfl rfl rfl ?_
      refine EW.bin rfl rfl rfl rfl rfl rfl rfl (BV.add (wrap_i64 (by omega) (by omega))) ?_
      refine EW.assign rfl rfl rfl rfl rfl rfl ?_
      refine EW.done ?_
      refine NW.again (k + 1) (by first | assumption | (dsimp only; omega) | omega | (simp; omega)) (by repeat (first | exact trivial | (refine ⟨by first | rfl | (congr 2; omega) | (simp; done) | (congr 1; simp; done), ?_⟩))) ?_
      try dsimp only
      have hil : i < ts.length := by omega
      refine ⟨hkl, ts.set i ((some ay, ls, cs), ys.set k (mkL i)), ?_, hmk.set _, fun p hp2 => ?_, ?_⟩
      · rw [map_set_same _ _ _ _ (by rw [hts]; exact hsi)]; exact hts
      · rw [List.getElem?_set_self hil] at hp2
        injection hp2 with hp2
        subst hp2
        exact take_set_all (hmk2 _ hp)
      · exact St.rowPut (hs.tail.pick [1, 0, 2, 3, 4, 5, 6, 7] (by decide)) hil
    · refine CW.cond_f rfl (by simpa using hkl) ?_
      refine KW.exit ?_
      refine XW.seq ?_
      refine XW.inv ?_
      refine XW.blk ?_
      refine NW.blk ?_
      refine NW.seq ?_
      refine CW.region (S := noS) [(0, .q), (1, .q), (2, .q)] rfl ?_
      refine EW.move rfl rfl rfl rfl rfl rfl ?_
      refine EW.bin rfl rfl rfl rfl rfl rfl rfl (BV.add (wrap_i64 (by omega) (by omega))) ?_
      refine EW.assign rfl rfl rfl rfl rfl rfl ?_
      refine EW.done ?_
      refine NW.again (i + 1) (by first | assumption | (dsimp only; omega) | omega | (simp; omega)) (by repeat (first | exact trivial | (refine ⟨by first | rfl | (congr 2; omega) | (simp; done) | (congr 1; simp; done), ?_⟩))) ?_
      try dsimp only
      refine ⟨hin, ts, hts, fun j p hp2 hj => ?_, hs⟩
      by_cases hji : j < i
      · exact hmk j p hp2 hji
      · obtain rfl : j = i := by omega
        have := hmk2 p hp2
        rw [hp] at hp2
        injection hp2 with hp2
        subst hp2
        rwa [List.take_of_length_le (by dsimp only; omega)] at this
  · refine CW.cond_f rfl (by simpa using hin) ?_
    obtain rfl : i = svs.length := by omega
    clear hin hi
    replace hs := (hs.nil elP).bigNil fD
    refine KW.exit ?_
    refine XW.seq ?_
    refine XW.inv ?_
    refine XW.blk ?_
    refine NW.seq ?_
    refine KW.seq ?_
    refine CW.region (S := noS) [(0, .q)] rfl ?_
    refine EW.assign rfl rfl rfl rfl rfl rfl ?_
    refine EW.done ?_
    refine NW.seq ?_
    refine KW.seq ?_
    refine KW.seq ?_
    refine CW.region (S := noS) [(0, .q)] rfl ?_
    refine EW.assign rfl rfl rfl rfl rfl rfl ?_
    refine EW.done ?_
    refine NW.seq ?_
    refine KW.block ?_
    refine KW.loop (ι := Nat × Value) (fun i => svs.length - i.1) (fun i => [(1, .int .i64 many), (5, .pointer (some ⟨b, 0, none⟩)), (7, .slice A42 qw.length c42), (14, .slice Aa svs.length ca), (17, i.2), (18, .int .i64 (i.1 : Int))]) (fun i w => i.1 ≤ svs.length ∧ ∃ done : List DR, DoneOk svs i.1 done ∧ St w0 noS w (bigR fD done :: own elP i.2 (done.map (·.2.1)) :: rows elL (ts.drop i.1) :: own elP (.slice Aa svs.length ca) svs :: own elP (.slice A42 qw.length c42) (qw.map (·.1)) :: rows elL qw :: pgR b mb ps)) (0, .slice none 0 0) (by repeat (first | exact trivial | (refine ⟨by first | rfl | (congr 2; omega) | (simp; done) | (congr 1; simp; done), ?_⟩))) ?_ ?_
    · exact ⟨Nat.zero_le _, [], ⟨rfl, fun j x hx => by simp at hx⟩, hs⟩
    clear hs
    rintro ⟨i, v17⟩ w ⟨hi, done, hdone, hs⟩
    dsimp only at hi hdone hs
    refine KW.seq ?_
    refine KW.seq ?_
    refine CW.region (S := noS) [(0, .q), (1, .q), (2, .q), (3, .q)] rfl ?_
    refine EW.move rfl rfl rfl rfl rfl rfl ?_
    refine EW.move rfl rfl rfl rfl rfl rfl ?_
    refine EW.len rfl rfl rfl rfl rfl rfl ?_
    refine EW.bin rfl rfl rfl rfl rfl rfl rfl BV.lss ?_
    refine EW.done ?_
    refine NW.seq ?_
    by_cases hin : i < svs.length
    · refine CW.cond_t rfl (by simpa using hin) ?_
      obtain ⟨⟨As, ls, cs⟩, hsi⟩ : ∃ s, svs[i]? = some s := ⟨_, List.getElem?_eq_getElem hin⟩
      obtain ⟨aa, rfl, _, _⟩ := (hs.sl 3 rfl).at_ hin
      have gi : LDP Tryz.prog w 30 (aa.add (((i : Nat) : Int).toNat * 1)) (.slice As ls cs) := (hs.sl 3 rfl).el hsi
      obtain ⟨⟨s', ys⟩, hp⟩ : ∃ p, ts[i]? = some p := ⟨_, List.getElem?_eq_getElem (by omega)⟩
      obtain rfl : s' = (As, ls, cs) := by
        rw [← hts, List.getElem?_map, hp] at hsi
        simpa using hsi
      have hdrop : ts.drop i = ((As, ls, cs), ys) :: ts.drop (i + 1) := by
        obtain ⟨hlt, he⟩ := List.getElem?_eq_some_iff.1 hp
        rw [List.drop_eq_getElem_cons hlt, he]
      rw [hdrop] at hs
      replace hs : St w0 noS w (own elL (.slice As ls cs) ys :: rows elL (ts.drop (i + 1)) :: bigR fD done :: own elP v17 (done.map (·.2.1)) :: own elP (.slice (some aa) svs.length ca) svs :: own elP (.slice A42 qw.length c42) (qw.map (·.1)) :: rows elL qw :: pgR b mb ps) := (hs.pick [2, 0, 1, 3, 4, 5, 6, 7, 8] (by decide)).rowCons
      have hyl : ls = ys.length := (own_slA (hs.res 0 rfl)).2.1
      have hys : ys.length ≤ 120 := by rw [← hyl]; exact hsl i _ hsi
      have hym : ∀ x ∈ ys, x = mkL i := hmk i _ hp hin
      have hdl : (done.map (·.2.1)).length = i := by rw [List.length_map]; exact hdone.len
      have ha1 : ¬ ((Value.slice As ls cs).ownBlock = some aa.block) := fun h => hs.apart 0 4 rfl rfl rfl _ h rfl
      have ha2 : ¬ (v17.ownBlock = some aa.block) := fun h => hs.apart 3 4 rfl rfl rfl _ h rfl
      refine KW.skip ?_
      refine NW.seq ?_
      refine KW.seq ?_
      refine KW.block ?_
      refine CW.regionD (fun k => (Value.slice As ls cs).ownBlock = some k ∨ v17.ownBlock = some k) [(0, .q), (1, .q), (2, .q), (3, .q), (4, .q), (5, .q), (6, .q), (7, .l), (8, .q), (9, .q), (10, .l), (11, .l), (12, .l), (13, .l), (14, .q)] mixed (by kernel_rfl) ?_
      replace hs := hs.drew
      refine EW.move rfl rfl rfl rfl rfl rfl ?_
      refine EW.move rfl rfl rfl rfl rfl rfl ?_
      refine EW.move rfl rfl rfl rfl rfl rfl ?_
      refine EW.indexAddr rfl rfl rfl rfl rfl rfl rfl (by omega) (by omega) ?_
      refine EW.loadP rfl rfl rfl rfl rfl rfl (by first | assumption | (apply LDP.drew; assumption) | exact St.ld1 hs 0 rfl rfl | exact St.ldA hs 0 rfl rfl rfl | exact St.ld1 hs 1 rfl rfl | exact St.ldA hs 1 rfl rfl rfl | exact St.ld1 hs 2 rfl rfl | exact St.ldA hs 2 rfl rfl rfl | exact St.ld1 hs 3 rfl rfl | exact St.ldA hs 3 rfl rfl rfl | exact St.ld1 hs 4 rfl rfl | exact St.ldA hs 4 rfl rfl rfl | exact St.ld1 hs 5 rfl rfl | exact St.ldA hs 5 rfl rfl rfl | exact St.ld1 hs 6 rfl rfl | exact St.ldA hs 6 rfl rfl rfl) (by first | exact .inl rfl | exact .inr (fun h => h) | exact .inr (fun h => by rw [add_block] at h; exact h.elim ha1 ha2)) ?_
      refine EW.move rfl rfl rfl rfl rfl rfl ?_
      refine EW.convI rfl rfl rfl rfl rfl rfl (wrap_u8 i) ?_
      refine EW.litN elB [UInt8.ofNat i] hs rfl rfl rfl rfl rfl rfl rfl rfl rfl rfl ?_
      clear hs; intro b120 w hs
      refine EW.convBS elB (fun _ => rfl) rfl Tryz.underlying5 (bs := [UInt8.ofNat i]) hs 0 rfl (.inr (fun h => h.elim (hs.apart 0 1 rfl rfl rfl _ rfl) (hs.apart 0 4 rfl rfl rfl _ rfl))) ?_
      refine EW.build (α := Unit) (pv := [(0, .string ⟨#[109]⟩), (1, .string ⟨[UInt8.ofNat i].toArray⟩)]) rfl rfl rfl rfl rfl rfl rfl (build44b _ _) ?_
      refine EW.lit1 elL (mkL i) hs rfl rfl rfl rfl rfl rfl rfl ?_
      clear hs; intro b123 w hs
      refine EW.appendTwo elL 2 0 hs rfl rfl (by show (ys.length + 1) * 32 ≤ 140737488355328; omega) (.inr fun k hk => .inl hk) rfl rfl rfl rfl rfl rfl rfl ?_
      clear hs; intro v124 w hs; dsimp only [List.set] at hs
      obtain ⟨B, c124, rfl⟩ : ∃ B c', v124 = .slice B (ys ++ [mkL i]).length c' := (let ⟨_, _, ⟨B, c', h, _⟩⟩ := (hs.res 2 rfl : (pairR elL (.slice As ls cs) v124 ys (ys ++ [mkL i])).holds w); ⟨B, c', h⟩)
      refine EW.lit1 elP (B, (ys ++ [mkL i]).length, c124) hs rfl rfl rfl rfl rfl rfl rfl ?_
      clear hs; intro b125 w hs
      refine EW.append1 elP 6 0 hs rfl rfl (by show ((done.map (·.2.1)).length + 1) * 24 ≤ 140737488355328; omega) (.inr fun k hk => .inr hk) rfl rfl rfl rfl rfl rfl rfl ?_
      clear hs; intro v126 w hs; dsimp only [List.set] at hs; replace hs := hs.tail
      refine EW.assign rfl rfl rfl rfl rfl rfl ?_
      refine EW.done ?_
      refine NW.blk ?_
      refine NW.seq ?_
      refine CW.region (S := noS) [(0, .q), (1, .q), (2, .q)] rfl ?_
      refine EW.move rfl rfl rfl rfl rfl rfl ?_
      refine EW.bin rfl rfl rfl rfl rfl rfl rfl (BV.add (wrap_i64 (by omega) (by omega))) ?_
      refine EW.assign rfl rfl rfl rfl rfl rfl ?_
      refine EW.done ?_
      refine NW.again ((i + 1, v126)) (by first | assumption | (dsimp only; omega) | omega | (simp; omega)) (by repeat (first | exact trivial | (refine ⟨by first | rfl | (congr 2; omega) | (simp; done) | (congr 1; simp; done), ?_⟩))) ?_
      try dsimp only
      refine ⟨hin, done ++ [((As, ls, cs), (B, (ys ++ [mkL i]).length, c124), ys, ys ++ [mkL i])], hdone.snoc _ hsi hym (fun a ha => ?_) (by simp; omega), ?_⟩
      · rcases List.mem_append.1 ha with ha | ha
        · exact hym a ha
        · exact List.mem_singleton.1 ha
      · rw [List.map_append]
        exact St.bigSnoc (f := fD) (hs.pick [4, 2, 5, 3, 6, 7, 8, 9, 10, 11] (by decide))
    · refine CW.cond_f rfl (by simpa using hin) ?_
      obtain rfl : i = svs.length := by omega
      clear hin hi hmk htl hts
      obtain ⟨Al, cl, rfl, _⟩ := own_sl (hs.res 1 rfl)
      have hdl : (done.map (·.2.1)).length = svs.length := by rw [List.length_map]; exact hdone.len
      rw [hdl] at hs
      replace hs : St w0 noS w (bigR fD done :: own elP (.slice Al svs.length cl) (done.map (·.2.1)) :: own elP (.slice Aa svs.length ca) svs :: own elP (.slice A42 qw.length c42) (qw.map (·.1)) :: rows elL qw :: pgR b mb ps) := hs.pick [0, 1, 3, 4, 5, 6, 7, 8] (by decide)
      rw [hdl]
      refine KW.exit ?_
      refine XW.seq ?_
      refine XW.inv ?_
      refine XW.blk ?_
      refine NW.seq ?_
      refine KW.seq ?_
      refine KW.seq ?_
      refine CW.region (S := noS) [(0, .q)] rfl ?_
      refine EW.assign rfl rfl rfl rfl rfl rfl ?_
      refine EW.done ?_
      refine NW.seq ?_
      refine KW.block ?_
      refine KW.loop (ι := Nat) (fun i => svs.length - i) (fun i => [(1, .int .i64 many), (5, .pointer (some ⟨b, 0, none⟩)), (7, .slice A42 qw.length c42), (14, .slice Aa svs.length ca), (17, .slice Al svs.length cl), (19, .int .i64 (i : Int))]) (fun i w => i ≤ svs.length ∧ St w0 noS w (bigR fD done :: own elP (.slice Al svs.length cl) (done.map (·.2.1)) :: own elP (.slice Aa svs.length ca) svs :: own elP (.slice A42 qw.length c42) (qw.map (·.1)) :: rows elL qw :: pgR b mb ps)) 0 (by repeat (first | exact trivial | (refine ⟨by first | rfl | (congr 2; omega) | (simp; done) | (congr 1; simp; done), ?_⟩))) ?_ ?_
      · exact ⟨Nat.zero_le _, hs⟩
      clear hs
      rintro i w ⟨hi, hs⟩
      refine KW.seq ?_
      refine KW.seq ?_
      refine CW.region (S := noS) [(0, .q), (1, .q), (2, .q), (3, .q)] rfl ?_
      refine EW.move rfl rfl rfl rfl rfl rfl ?_
      refine EW.move rfl rfl rfl rfl rfl rfl ?_
      refine EW.len rfl rfl rfl rfl rfl rfl ?_
      refine EW.bin rfl rfl rfl rfl rfl rfl rfl BV.lss ?_
      refine EW.done ?_
      refine NW.seq ?_
      by_cases hin : i < svs.length
      · refine CW.cond_t rfl (by simpa using hin) ?_
        obtain ⟨⟨s1, ⟨Bz, lz, cz⟩, ys, zs⟩, hdi⟩ : ∃ x, done[i]? = some x := ⟨_, List.getElem?_eq_getElem (by rw [hdone.len]; exact hin)⟩
        obtain ⟨hsi, hym, hzm, hzn⟩ := hdone.at_ i _ hdi
        obtain ⟨As, ls, cs⟩ := s1
        dsimp only at hsi hym hzm hzn
        have hlz0 : lz = zs.length := (pair_sl ((hs.res 0 rfl : (bigR fD done).holds w) _ (List.mem_of_getElem? hdi))).2.2.1
        have hli : (done.map (·.2.1))[i]? = some (Bz, lz, cz) := by rw [List.getElem?_map, hdi]; rfl
        obtain ⟨aa, rfl, _, _⟩ := (hs.sl 2 rfl).at_ hin
        obtain ⟨al, rfl, _, _⟩ := (hs.sl 1 rfl).at_ (i := i) (by omega)
        refine KW.skip ?_
        refine NW.seq ?_
        refine KW.seq ?_
        refine KW.block ?_
        refine KW.seq ?_
        refine CW.region (S := noS) [(0, .q)] rfl ?_
        refine EW.assign rfl rfl rfl rfl rfl rfl ?_
        refine EW.done ?_
        refine NW.seq ?_
        refine KW.block ?_
        refine KW.loop (ι := Nat) (fun k => lz - k) (fun k => [(1, .int .i64 many), (5, .pointer (some ⟨b, 0, none⟩)), (7, .slice A42 qw.length c42), (14, .slice (some aa) svs.length ca), (17, .slice (some al) svs.length cl), (19, .int .i64 (i : Int)), (20, .int .i64 (k : Int))]) (fun k w => k ≤ lz ∧ St w0 noS w (bigR fD done :: own elP (.slice (some al) svs.length cl) (done.map (·.2.1)) :: own elP (.slice (some aa) svs.length ca) svs :: own elP (.slice A42 qw.length c42) (qw.map (·.1)) :: rows elL qw :: pgR b mb ps)) 0 (by repeat (first | exact trivial | (refine ⟨by first | rfl | (congr 2; omega) | (simp; done) | (congr 1; simp; done), ?_⟩))) ?_ ?_
        · exact ⟨Nat.zero_le _, hs⟩
        clear hs
        rintro k w ⟨hk, hs⟩
        have gl : LDP Tryz.prog w 30 (al.add (((i : Nat) : Int).toNat * 1)) (.slice Bz lz cz) := (hs.sl 1 rfl).el hli
        have gli := gl
        refine KW.seq ?_
        refine KW.seq ?_
        refine CW.region (S := noS) [(0, .q), (1, .q), (2, .q), (3, .q), (4, .q), (5, .q), (6, .q)] rfl ?_
        refine EW.move rfl rfl rfl rfl rfl rfl ?_
        refine EW.move rfl rfl rfl rfl rfl rfl ?_
        refine EW.move rfl rfl rfl rfl rfl rfl ?_
        refine EW.indexAddr rfl rfl rfl rfl rfl rfl rfl (by omega) (by omega) ?_
        refine EW.loadP rfl rfl rfl rfl rfl rfl (by first | assumption | (apply LDP.drew; assumption) | exact St.ld1 hs 0 rfl rfl | exact St.ldA hs 0 rfl rfl rfl | exact St.ld1 hs 1 rfl rfl | exact St.ldA hs 1 rfl rfl rfl | exact St.ld1 hs 2 rfl rfl | exact St.ldA hs 2 rfl rfl rfl | exact St.ld1 hs 3 rfl rfl | exact St.ldA hs 3 rfl rfl rfl | exact St.ld1 hs 4 rfl rfl | exact St.ldA hs 4 rfl rfl rfl | exact St.ld1 hs 5 rfl rfl | exact St.ldA hs 5 rfl rfl rfl | exact St.ld1 hs 6 rfl rfl | exact St.ldA hs 6 rfl rfl rfl) (by first | exact .inl rfl | exact .inr (fun h => h) | exact .inr (fun h => by rw [add_block] at h; exact h.elim ha1 ha2)) ?_
        refine EW.len rfl rfl rfl rfl rfl rfl ?_
        refine EW.bin rfl rfl rfl rfl rfl rfl rfl BV.lss ?_
        refine EW.done ?_
        refine NW.seq ?_
        by_cases hkl : k < lz
        · refine CW.cond_t rfl (by simpa using hkl) ?_
          refine KW.skip ?_
          refine NW.seq ?_
          refine KW.seq ?_
          refine KW.block ?_
          refine KW.seq ?_
          refine CW.region (S := noS) [(0, .q), (1, .q), (2, .l), (3, .q), (4, .q), (5, .l), (6, .l)] rfl ?_
          refine EW.move rfl rfl rfl rfl rfl rfl ?_
          refine EW.convI rfl rfl rfl rfl rfl rfl (wrap_u8 i) ?_
          refine EW.litN elB [UInt8.ofNat i] hs rfl rfl rfl rfl rfl rfl rfl rfl rfl rfl ?_
          clear hs; intro b144 w hs
          refine EW.convBS elB (fun _ => rfl) rfl Tryz.underlying5 (bs := [UInt8.ofNat i]) hs 0 rfl (.inl rfl) ?_
          refine EW.build (α := Unit) (pv := [(0, .string ⟨#[109]⟩), (1, .string ⟨[UInt8.ofNat i].toArray⟩)]) rfl rfl rfl rfl rfl rfl rfl (build44b _ _) ?_
          refine EW.alloc (z := .agg #[.string ByteArray.empty, .string ByteArray.empty]) hs rfl rfl rfl rfl rfl (by kernel_rfl) ?_
          clear hs; intro b21 w hs; dsimp only [Value.cells] at hs
          first | refine EW.store hs 0 rfl rfl rfl rfl rfl rfl rfl rfl rfl (by simp [Value.oneCell', Value.cells]) rfl (.inl rfl) ?_ | refine EW.store hs 1 rfl rfl rfl rfl rfl rfl rfl rfl rfl (by simp [Value.oneCell', Value.cells]) rfl (.inl rfl) ?_ | refine EW.store hs 2 rfl rfl rfl rfl rfl rfl rfl rfl rfl (by simp [Value.oneCell', Value.cells]) rfl (.inl rfl) ?_ | refine EW.store hs 3 rfl rfl rfl rfl rfl rfl rfl rfl rfl (by simp [Value.oneCell', Value.cells]) rfl (.inl rfl) ?_ | refine EW.store hs 4 rfl rfl rfl rfl rfl rfl rfl rfl rfl (by simp [Value.oneCell', Value.cells]) rfl (.inl rfl) ?_ | refine EW.store hs 5 rfl rfl rfl rfl rfl rfl rfl rfl rfl (by simp [Value.oneCell', Value.cells]) rfl (.inl rfl) ?_ | refine EW.store hs 6 rfl rfl rfl rfl rfl rfl rfl rfl rfl (by simp [Value.oneCell', Value.cells]) rfl (.inl rfl) ?_
          clear hs; intro w hs; dsimp only [List.set, setAt] at hs
          obtain ⟨hls, hA, hlz, hB⟩ := pair_sl ((hs.res 2 rfl : (bigR fD done).holds w) _ (List.mem_of_getElem? hdi))
          dsimp only at hls hA hlz hB
          have g1 : LDP Tryz.prog w 30 (al.add (((i : Nat) : Int).toNat * 1)) (.slice Bz lz cz) := (hs.sl 3 rfl).el hli
          have g2 : LDP Tryz.prog w 30 (aa.add (((i : Nat) : Int).toNat * 1)) (.slice As ls cs) := (hs.sl 4 rfl).el hsi
          obtain ⟨z, hz⟩ : ∃ z, zs[k]? = some z := ⟨_, List.getElem?_eq_getElem (by omega)⟩
          obtain rfl := hzm z (List.mem_of_getElem? hz)
          obtain ⟨bz, rfl, _, _⟩ := hB.at_ (i := k) (by omega)
          have g3 : LDP Tryz.prog w 44 (bz.add (((k : Nat) : Int).toNat * 2)) (encL (mkL i)) := hB.el hz
          refine EW.done ?_
          refine NW.seq ?_
          refine KW.seq ?_
          refine CW.regionD (noS) [(0, .q), (1, .q), (2, .q), (3, .q), (4, .q), (5, .q), (6, .q), (7, .q), (8, .q), (9, .q), (10, .q), (11, .q), (12, .q), (13, .q), (14, .q), (15, .q), (16, .q), (17, .q), (18, .q), (19, .q), (20, .q), (21, .q), (22, .q), (23, .q), (24, .q), (25, .q), (26, .q), (27, .q), (28, .q)] mixed (by kernel_rfl) ?_
          replace hs := hs.drew
          refine EW.move rfl rfl rfl rfl rfl rfl ?_
          refine EW.move rfl rfl rfl rfl rfl rfl ?_
          refine EW.indexAddr rfl rfl rfl rfl rfl rfl rfl (by omega) (by omega) ?_
          refine EW.loadP rfl rfl rfl rfl rfl rfl (by first | assumption | (apply LDP.drew; assumption) | exact St.ld1 hs 0 rfl rfl | exact St.ldA hs 0 rfl rfl rfl | exact St.ld1 hs 1 rfl rfl | exact St.ldA hs 1 rfl rfl rfl | exact St.ld1 hs 2 rfl rfl | exact St.ldA hs 2 rfl rfl rfl | exact St.ld1 hs 3 rfl rfl | exact St.ldA hs 3 rfl rfl rfl | exact St.ld1 hs 4 rfl rfl | exact St.ldA hs 4 rfl rfl rfl | exact St.ld1 hs 5 rfl rfl | exact St.ldA hs 5 rfl rfl rfl | exact St.ld1 hs 6 rfl rfl | exact St.ldA hs 6 rfl rfl rfl) (by first | exact .inl rfl | exact .inr (fun h => h) | exact .inr (fun h => by rw [add_block] at h; exact h.elim ha1 ha2)) ?_
          refine EW.move rfl rfl rfl rfl rfl rfl ?_
          refine EW.indexAddr rfl rfl rfl rfl rfl rfl rfl (by omega) (by omega) ?_
          refine EW.loadP rfl rfl rfl rfl rfl rfl (by first | assumption | (apply LDP.drew; assumption) | exact St.ld1 hs 0 rfl rfl | exact St.ldA hs 0 rfl rfl rfl | exact St.ld1 hs 1 rfl rfl | exact St.ldA hs 1 rfl rfl rfl | exact St.ld1 hs 2 rfl rfl | exact St.ldA hs 2 rfl rfl rfl | exact St.ld1 hs 3 rfl rfl | exact St.ldA hs 3 rfl rfl rfl | exact St.ld1 hs 4 rfl rfl | exact St.ldA hs 4 rfl rfl rfl | exact St.ld1 hs 5 rfl rfl | exact St.ldA hs 5 rfl rfl rfl | exact St.ld1 hs 6 rfl rfl | exact St.ldA hs 6 rfl rfl rfl) (by first | exact .inl rfl | exact .inr (fun h => h) | exact .inr (fun h => by rw [add_block] at h; exact h.elim ha1 ha2)) ?_
          refine EW.loadP rfl rfl rfl rfl rfl rfl (by first | assumption | (apply LDP.drew; assumption) | exact St.ld1 hs 0 rfl rfl | exact St.ldA hs 0 rfl rfl rfl | exact St.ld1 hs 1 rfl rfl | exact St.ldA hs 1 rfl rfl rfl | exact St.ld1 hs 2 rfl rfl | exact St.ldA hs 2 rfl rfl rfl | exact St.ld1 hs 3 rfl rfl | exact St.ldA hs 3 rfl rfl rfl | exact St.ld1 hs 4 rfl rfl | exact St.ldA hs 4 rfl rfl rfl | exact St.ld1 hs 5 rfl rfl | exact St.ldA hs 5 rfl rfl rfl | exact St.ld1 hs 6 rfl rfl | exact St.ldA hs 6 rfl rfl rfl) (by first | exact .inl rfl | exact .inr (fun h => h) | exact .inr (fun h => by rw [add_block] at h; exact h.elim ha1 ha2)) ?_
          refine EW.bin rfl rfl rfl rfl rfl rfl rfl (BVne44 (a := mkL i) (b := mkL i)) ?_
          rw [decide_eq_true (rfl : mkL i = mkL i)]
          refine EW.move rfl rfl rfl rfl rfl rfl ?_
          refine EW.move rfl rfl rfl rfl rfl rfl ?_
          refine EW.move rfl rfl rfl rfl rfl rfl ?_
          refine EW.move rfl rfl rfl rfl rfl rfl ?_
          refine EW.indexAddr rfl rfl rfl rfl rfl rfl rfl (by omega) (by omega) ?_
          refine EW.loadP rfl rfl rfl rfl rfl rfl (by first | assumption | (apply LDP.drew; assumption) | exact St.ld1 hs 0 rfl rfl | exact St.ldA hs 0 rfl rfl rfl | exact St.ld1 hs 1 rfl rfl | exact St.ldA hs 1 rfl rfl rfl | exact St.ld1 hs 2 rfl rfl | exact St.ldA hs 2 rfl rfl rfl | exact St.ld1 hs 3 rfl rfl | exact St.ldA hs 3 rfl rfl rfl | exact St.ld1 hs 4 rfl rfl | exact St.ldA hs 4 rfl rfl rfl | exact St.ld1 hs 5 rfl rfl | exact St.ldA hs 5 rfl rfl rfl | exact St.ld1 hs 6 rfl rfl | exact St.ldA hs 6 rfl rfl rfl) (by first | exact .inl rfl | exact .inr (fun h => h) | exact .inr (fun h => by rw [add_block] at h; exact h.elim ha1 ha2)) ?_
          refine EW.len rfl rfl rfl rfl rfl rfl ?_
          refine EW.bin rfl rfl rfl rfl rfl rfl rfl BV.lss ?_
          refine EW.move rfl rfl rfl rfl rfl rfl ?_
          refine EW.caseB (fun h2 => ?_) (fun h2 => ?_)
          · skip
            have h2' : k < ls := by simpa using h2
            obtain ⟨y, hy⟩ : ∃ y, ys[k]? = some y := ⟨_, List.getElem?_eq_getElem (by omega)⟩
            obtain rfl := hym y (List.mem_of_getElem? hy)
            obtain ⟨ay, rfl, _, _⟩ := hA.at_ (i := k) (by omega)
            have g4 : LDP Tryz.prog w 44 (ay.add (((k : Nat) : Int).toNat * 2)) (encL (mkL i)) := hA.el hy
            refine EW.move rfl rfl rfl rfl rfl rfl ?_
            refine EW.move rfl rfl rfl rfl rfl rfl ?_
            refine EW.indexAddr rfl rfl rfl rfl rfl rfl rfl (by omega) (by omega) ?_
            refine EW.loadP rfl rfl rfl rfl rfl rfl (by first | assumption | (apply LDP.drew; assumption) | exact St.ld1 hs 0 rfl rfl | exact St.ldA hs 0 rfl rfl rfl | exact St.ld1 hs 1 rfl rfl | exact St.ldA hs 1 rfl rfl rfl | exact St.ld1 hs 2 rfl rfl | exact St.ldA hs 2 rfl rfl rfl | exact St.ld1 hs 3 rfl rfl | exact St.ldA hs 3 rfl rfl rfl | exact St.ld1 hs 4 rfl rfl | exact St.ldA hs 4 rfl rfl rfl | exact St.ld1 hs 5 rfl rfl | exact St.ldA hs 5 rfl rfl rfl | exact St.ld1 hs 6 rfl rfl | exact St.ldA hs 6 rfl rfl rfl) (by first | exact .inl rfl | exact .inr (fun h => h) | exact .inr (fun h => by rw [add_block] at h; exact h.elim ha1 ha2)) ?_
            refine EW.move rfl rfl rfl rfl rfl rfl ?_
            refine EW.indexAddr rfl rfl rfl rfl rfl rfl rfl (by omega) (by omega) ?_
            refine EW.loadP rfl rfl rfl rfl rfl rfl (by first | assumption | (apply LDP.drew; assumption) | exact St.ld1 hs 0 rfl rfl | exact St.ldA hs 0 rfl rfl rfl | exact St.ld1 hs 1 rfl rfl | exact St.ldA hs 1 rfl rfl rfl | exact St.ld1 hs 2 rfl rfl | exact St.ldA hs 2 rfl rfl rfl | exact St.ld1 hs 3 rfl rfl | exact St.ldA hs 3 rfl rfl rfl | exact St.ld1 hs 4 rfl rfl | exact St.ldA hs 4 rfl rfl rfl | exact St.ld1 hs 5 rfl rfl | exact St.ldA hs 5 rfl rfl rfl | exact St.ld1 hs 6 rfl rfl | exact St.ldA hs 6 rfl rfl rfl) (by first | exact .inl rfl | exact .inr (fun h => h) | exact .inr (fun h => by rw [add_block] at h; exact h.elim ha1 ha2)) ?_
            refine EW.loadP rfl rfl rfl rfl rfl rfl (by first | assumption | (apply LDP.drew; assumption) | exact St.ld1 hs 0 rfl rfl | exact St.ldA hs 0 rfl rfl rfl | exact St.ld1 hs 1 rfl rfl | exact St.ldA hs 1 rfl rfl rfl | exact St.ld1 hs 2 rfl rfl | exact St.ldA hs 2 rfl rfl rfl | exact St.ld1 hs 3 rfl rfl | exact St.ldA hs 3 rfl rfl rfl | exact St.ld1 hs 4 rfl rfl | exact St.ldA hs 4 rfl rfl rfl | exact St.ld1 hs 5 rfl rfl | exact St.ldA hs 5 rfl rfl rfl | exact St.ld1 hs 6 rfl rfl | exact St.ldA hs 6 rfl rfl rfl) (by first | exact .inl rfl | exact .inr (fun h => h) | exact .inr (fun h => by rw [add_block] at h; exact h.elim ha1 ha2)) ?_
            refine EW.bin rfl rfl rfl rfl rfl rfl rfl (BVne44 (a := mkL i) (b := mkL i)) ?_
            rw [decide_eq_true (rfl : mkL i = mkL i)]
            refine EW.pick rfl rfl rfl rfl rfl rfl rfl ?_
            refine EW.pick rfl rfl rfl rfl rfl rfl rfl ?_
            refine EW.done ?_
            refine NW.seq ?_
            refine CW.cond_f rfl (rfl) ?_
            refine KW.skip ?_
            refine NW.blk ?_
            refine NW.seq ?_
            refine CW.region (S := noS) [(0, .q), (1, .q), (2, .q)] rfl ?_
            refine EW.move rfl rfl rfl rfl rfl rfl ?_
            refine EW.bin rfl rfl rfl rfl rfl rfl rfl (BV.add (wrap_i64 (by omega) (by omega))) ?_
            refine EW.assign rfl rfl rfl rfl rfl rfl ?_
            refine EW.done ?_
            refine NW.again (k + 1) (by first | assumption | (dsimp only; omega) | omega | (simp; omega)) (by repeat (first | exact trivial | (refine ⟨by first | rfl | (congr 2; omega) | (simp; done) | (congr 1; simp; done), ?_⟩))) ?_
            try dsimp only
            exact ⟨hkl, hs.pick [2, 3, 4, 5, 6, 7, 8, 9] (by decide)⟩
          · skip
            refine EW.off rfl rfl rfl rfl ?_
            refine EW.off rfl rfl rfl rfl ?_
            refine EW.off rfl rfl rfl rfl ?_
            refine EW.off rfl rfl rfl rfl ?_
            refine EW.off rfl rfl rfl rfl ?_
            refine EW.off rfl rfl rfl rfl ?_
            refine EW.off rfl rfl rfl rfl ?_
            refine EW.off rfl rfl rfl rfl ?_
            refine EW.off rfl rfl rfl rfl ?_
            refine EW.pick rfl rfl rfl rfl rfl rfl rfl ?_
            refine EW.pick rfl rfl rfl rfl rfl rfl rfl ?_
            refine EW.done ?_
            refine NW.seq ?_
            refine CW.cond_f rfl (rfl) ?_
            refine KW.skip ?_
            refine NW.blk ?_
            refine NW.seq ?_
            refine CW.region (S := noS) [(0, .q), (1, .q), (2, .q)] rfl ?_
            refine EW.move rfl rfl rfl rfl rfl rfl ?_
            refine EW.bin rfl rfl rfl rfl rfl rfl rfl (BV.add (wrap_i64 (by omega) (by omega))) ?_
            refine EW.assign rfl rfl rfl rfl rfl rfl ?_
            refine EW.done ?_
            refine NW.again (k + 1) (by first | assumption | (dsimp only; omega) | omega | (simp; omega)) (by repeat (first | exact trivial | (refine ⟨by first | rfl | (congr 2; omega) | (simp; done) | (congr 1; simp; done), ?_⟩))) ?_
            try dsimp only
            exact ⟨hkl, hs.pick [2, 3, 4, 5, 6, 7, 8, 9] (by decide)⟩
        · refine CW.cond_f rfl (by simpa using hkl) ?_
          refine KW.exit ?_
          refine XW.seq ?_
          refine XW.inv ?_
          refine XW.blk ?_
          refine NW.blk ?_
          refine NW.seq ?_
          refine CW.region (S := noS) [(0, .q), (1, .q), (2, .q)] rfl ?_
          refine EW.move rfl rfl rfl rfl rfl rfl ?_
          refine EW.bin rfl rfl rfl rfl rfl rfl rfl (BV.add (wrap_i64 (by omega) (by omega))) ?_
          refine EW.assign rfl rfl rfl rfl rfl rfl ?_
          refine EW.done ?_
          refine NW.again (i + 1) (by first | assumption | (dsimp only; omega) | omega | (simp; omega)) (by repeat (first | exact trivial | (refine ⟨by first | rfl | (congr 2; omega) | (simp; done) | (congr 1; simp; done), ?_⟩))) ?_
          try dsimp only
          exact ⟨hin, hs⟩
      · refine CW.cond_f rfl (by simpa using hin) ?_
        clear hin
        simp only [pgR, List.cons_append, List.nil_append] at hs
        refine KW.exit ?_
        refine XW.seq ?_
        refine XW.inv ?_
        refine XW.blk ?_
        refine NW.seq ?_
        refine KW.seq ?_
        refine KW.seq ?_
        refine CW.region (S := noS) [(0, .q), (1, .l), (2, .q), (3, .l), (4, .q)] rfl ?_
        refine EW.move rfl rfl rfl rfl rfl rfl ?_
        refine EW.callT1 (Parts_spec _ b mb ps g (PGA.of hs 5 6 7 rfl rfl rfl) hps hok hbig (by omega) hgs.nm (hgl.stay hs.keep)) rfl rfl rfl rfl rfl Tryz.func8 bd8 nm8 rfl ?_
        intro v177 w hk177 hp177
        obtain ⟨xss6, hip6, qc, hqc, hst⟩ := hp177
        rw [parts_unique hip6 hip] at hqc
        replace hs := hs.plus hst
        clear hst hip6
        simp only [List.cons_append, List.nil_append] at hs
        obtain ⟨A177, c177, rfl, _⟩ := own_sl (hs.res 0 rfl)
        have hqcl : (qc.map (·.1)).length = qc.length := (by simp)
        rw [hqcl] at hs ⊢
        have hcn : qc.length ≤ 120 := (by have := congrArg List.length hqc; simp only [List.length_map] at this; omega)
        refine EW.move rfl rfl rfl rfl rfl rfl ?_
        refine EW.callT1 (sameAll_spec _ _ _ _ _ qc qw (RowsA.of hs 0 1 rfl rfl) (RowsA.of hs 5 6 rfl rfl) (by omega) (by omega) (fun p hp => hpl _ (by rw [← hqc]; exact List.mem_map.2 ⟨p, hp, rfl⟩)) (fun p hp => hpl _ (by rw [← hqw]; exact List.mem_map.2 ⟨p, hp, rfl⟩))) rfl rfl rfl rfl rfl Tryz.func11 bd11 nm11 rfl ?_
        intro v179 w hk179 hp179
        subst hp179
        replace hs := hs.stay hk179
        rw [decide_eq_true (hqc.trans hqw.symm)]
        refine EW.not rfl rfl rfl rfl rfl rfl ?_
        refine EW.done ?_
        refine NW.seq ?_
        refine CW.cond_f rfl (rfl) ?_
        obtain ⟨r, hr, hbv⟩ := BV.mask (P := Tryz.prog) (t := 3) many 9 (by decide)
        refine KW.skip ?_
        refine NW.seq ?_
        refine KW.seq ?_
        refine CW.region (S := noS) [(0, .q), (1, .q), (2, .q), (3, .q)] rfl ?_
        refine EW.move rfl rfl rfl rfl rfl rfl ?_
        refine EW.bin rfl rfl rfl rfl rfl rfl rfl (hbv) ?_
        refine EW.bin rfl rfl rfl rfl rfl rfl rfl (BV.add (a := 2) (b := ((r : Nat) : Int)) (c := ((2 + r : Nat) : Int)) (by rw [Int.natCast_add]; exact wrap_i64 (by omega) (by omega))) ?_
        refine EW.assign rfl rfl rfl rfl rfl rfl ?_
        obtain ⟨sz, hsz⟩ : ∃ sz, sz = 2 + r := ⟨_, rfl⟩
        rw [← hsz]
        have h2 : 2 ≤ sz := by omega
        have hszb : sz ≤ 1024 := by omega
        clear hsz hr hbv
        refine EW.done ?_
        refine NW.seq ?_
        refine KW.seq ?_
        refine CW.region (S := noS) [(0, .l), (1, .l), (2, .q), (3, .q)] rfl ?_
        refine EW.callT1 (New_spec _) rfl rfl rfl rfl rfl Tryz.func18 bd18 nm18 rfl ?_
        intro v184 w hk184 hp184
        obtain ⟨b1, mb1, rfl, hst⟩ := hp184
        replace hs := hs.plus hst
        clear hst
        refine EW.callT1 (New_spec _) rfl rfl rfl rfl rfl Tryz.func18 bd18 nm18 rfl ?_
        intro v185 w hk185 hp185
        obtain ⟨b3, mb3, rfl, hst⟩ := hp185
        replace hs := hs.plus hst
        clear hst
        refine EW.assign rfl rfl rfl rfl rfl rfl ?_
        refine EW.assign rfl rfl rfl rfl rfl rfl ?_
        refine EW.done ?_
        refine NW.seq ?_
        refine KW.seq ?_
        refine KW.seq ?_
        refine CW.region (S := noS) [(0, .q), (1, .q), (2, .q), (3, .q), (4, .q), (5, .q)] rfl ?_
        refine EW.move rfl rfl rfl rfl rfl rfl ?_
        refine EW.bin rfl rfl rfl rfl rfl rfl rfl BV.ptr_eqnil ?_
        refine EW.move rfl rfl rfl rfl rfl rfl ?_
        refine EW.move rfl rfl rfl rfl rfl rfl ?_
        refine EW.bin rfl rfl rfl rfl rfl rfl rfl BV.ptr_eqnil ?_
        refine EW.pick rfl rfl rfl rfl rfl rfl rfl ?_
        refine EW.done ?_
        refine NW.seq ?_
        refine CW.cond_f rfl (rfl) ?_
        simp only [pgR, List.cons_append, List.nil_append] at hs
        replace hs : St w0 noS w (pgR b1 mb1 [] ++ pgR b3 mb3 []) := hs.pick [3, 4, 5, 0, 1, 2] (by decide)
        refine KW.skip ?_
        refine NW.seq ?_
        refine KW.seq ?_
        refine KW.seq ?_
        refine CW.region (S := noS) [(0, .q)] rfl ?_
        refine EW.assign rfl rfl rfl rfl rfl rfl ?_
        refine EW.done ?_
        refine NW.seq ?_
        refine KW.block ?_
        refine KW.loop (ι := Nat × List PE × List PE) (fun i => sz - i.1) (fun i => [(22, .int .i64 (sz : Int)), (23, .pointer (some ⟨b1, 0, none⟩)), (24, .pointer (some ⟨b3, 0, none⟩)), (25, .int .i64 (i.1 : Int))]) (fun i w => i.1 ≤ sz ∧ IsPG i.2.1 (gE (ringE sz i.1)) ∧ IsPG i.2.2 (gE (ringE sz (min i.1 (sz - 1)))) ∧ St w0 noS w (pgR b1 mb1 i.2.1 ++ pgR b3 mb3 i.2.2)) (0, [], []) (by repeat (first | exact trivial | (refine ⟨by first | rfl | (congr 2; omega) | (simp; done) | (congr 1; simp; done), ?_⟩))) ?_ ?_
        · exact ⟨Nat.zero_le _, ⟨rfl, by simp⟩, by rw [Nat.zero_min]; exact ⟨rfl, by simp⟩, hs⟩
        clear hs
        rintro ⟨k, p1, p2⟩ w ⟨hk, h1, h3, hs⟩
        dsimp only at hk h1 h3 hs
        refine KW.seq ?_
        refine KW.seq ?_
        refine CW.region (S := noS) [(0, .q), (1, .q), (2, .q)] rfl ?_
        refine EW.move rfl rfl rfl rfl rfl rfl ?_
        refine EW.move rfl rfl rfl rfl rfl rfl ?_
        refine EW.bin rfl rfl rfl rfl rfl rfl rfl BV.lss ?_
        refine EW.done ?_
        refine NW.seq ?_
        by_cases hkn : k < sz
        · refine CW.cond_t rfl (by simpa using hkn) ?_
          obtain ⟨hok1, hsm1⟩ := gE_good (ringE sz k) (ringE_sm _ _)
          obtain ⟨hok3, hsm3⟩ := gE_good (ringE sz (min k (sz - 1))) (ringE_sm _ _)
          rw [ringE_len] at hsm1 hsm3
          refine KW.skip ?_
          refine NW.seq ?_
          refine KW.seq ?_
          refine KW.block ?_
          refine KW.seq ?_
          refine CW.region (S := noS) [(0, .q), (1, .q), (2, .q), (3, .q), (4, .q), (5, .q), (6, .q), (7, .q), (8, .q), (9, .q), (10, .q), (11, .q), (12, .q), (13, .l), (14, .q), (15, .q), (16, .l), (17, .l)] rfl ?_
          refine EW.move rfl rfl rfl rfl rfl rfl ?_
          refine EW.bin rfl rfl rfl rfl rfl rfl rfl (BV.quoN (a := k) (b := 256) (by decide) (by omega)) ?_
          refine EW.convI (a := ((k / 256 : Nat) : Int)) (b := ((k / 256 : Nat) : Int)) rfl rfl rfl rfl rfl rfl (wrap8 (by omega)) ?_
          refine EW.bin rfl rfl rfl rfl rfl rfl rfl (BV.addB (a := k / 256)) ?_
          refine EW.move rfl rfl rfl rfl rfl rfl ?_
          refine EW.bin rfl rfl rfl rfl rfl rfl rfl (BV.quoN (a := k) (b := 16) (by decide) (by omega)) ?_
          refine EW.bin rfl rfl rfl rfl rfl rfl rfl (BV.remN (a := k / 16) (b := 16) (by decide)) ?_
          refine EW.convI (a := ((k / 16 % 16 : Nat) : Int)) (b := ((k / 16 % 16 : Nat) : Int)) rfl rfl rfl rfl rfl rfl (wrap8 (by omega)) ?_
          refine EW.bin rfl rfl rfl rfl rfl rfl rfl (BV.addB (a := k / 16 % 16)) ?_
          refine EW.move rfl rfl rfl rfl rfl rfl ?_
          refine EW.bin rfl rfl rfl rfl rfl rfl rfl (BV.remN (a := k) (b := 16) (by decide)) ?_
          refine EW.convI (a := ((k % 16 : Nat) : Int)) (b := ((k % 16 : Nat) : Int)) rfl rfl rfl rfl rfl rfl (wrap8 (by omega)) ?_
          refine EW.bin rfl rfl rfl rfl rfl rfl rfl (BV.addB (a := k % 16)) ?_
          refine EW.litN elB (ndB k) hs rfl rfl rfl rfl rfl rfl rfl rfl rfl rfl ?_
          clear hs; intro b210 w hs
          refine EW.convBS elB (fun _ => rfl) rfl Tryz.underlying5 (bs := ndB k) hs 0 rfl (.inl rfl) ?_
          refine EW.build (α := Unit) (pv := [(0, .string ⟨#[112]⟩), (1, .string ⟨(ndB k).toArray⟩)]) rfl rfl rfl rfl rfl rfl rfl (build44b _ _) ?_
          refine EW.alloc (z := .agg #[.string ByteArray.empty, .string ByteArray.empty]) hs rfl rfl rfl rfl rfl (by kernel_rfl) ?_
          clear hs; intro b26 w hs; dsimp only [Value.cells] at hs
          first | refine EW.store hs 0 rfl rfl rfl rfl rfl rfl rfl rfl rfl (by simp [Value.oneCell', Value.cells]) rfl (.inl rfl) ?_ | refine EW.store hs 1 rfl rfl rfl rfl rfl rfl rfl rfl rfl (by simp [Value.oneCell', Value.cells]) rfl (.inl rfl) ?_ | refine EW.store hs 2 rfl rfl rfl rfl rfl rfl rfl rfl rfl (by simp [Value.oneCell', Value.cells]) rfl (.inl rfl) ?_ | refine EW.store hs 3 rfl rfl rfl rfl rfl rfl rfl rfl rfl (by simp [Value.oneCell', Value.cells]) rfl (.inl rfl) ?_ | refine EW.store hs 4 rfl rfl rfl rfl rfl rfl rfl rfl rfl (by simp [Value.oneCell', Value.cells]) rfl (.inl rfl) ?_ | refine EW.store hs 5 rfl rfl rfl rfl rfl rfl rfl rfl rfl (by simp [Value.oneCell', Value.cells]) rfl (.inl rfl) ?_ | refine EW.store hs 6 rfl rfl rfl rfl rfl rfl rfl rfl rfl (by simp [Value.oneCell', Value.cells]) rfl (.inl rfl) ?_
          clear hs; intro w hs; dsimp only [List.set, setAt] at hs
          refine EW.done ?_
          refine NW.seq ?_
          obtain ⟨j, hj⟩ : ∃ j, j = (k + 1) % sz := ⟨_, rfl⟩
          have hjl : j < sz := by rw [hj]; exact Nat.mod_lt _ (by omega)
          refine KW.cut (ι := Nat) (fun b27 => [(22, .int .i64 (sz : Int)), (23, .pointer (some ⟨b1, 0, none⟩)), (24, .pointer (some ⟨b3, 0, none⟩)), (25, .int .i64 (k : Int)), (26, .pointer (some ⟨b26, 0, none⟩)), (27, .pointer (some ⟨b27, 0, none⟩))]) (fun b27 w => St w0 noS w (pt b27 (.cells #[.string ⟨#[112]⟩, .string ⟨(ndB j).toArray⟩] 44) :: pt b26 (.cells #[.string ⟨#[112]⟩, .string ⟨(ndB k).toArray⟩] 44) :: (pgR b1 mb1 p1 ++ pgR b3 mb3 p2))) ?_ ?_
          · skip
            refine CW.regionD2 (noS) [(0, .q), (1, .q), (2, .q), (3, .q), (4, .q), (5, .q), (6, .q), (7, .q), (8, .q), (9, .q), (10, .q), (11, .q), (12, .q), (13, .q), (14, .q), (15, .q), (16, .q), (17, .q), (18, .q), (19, .q), (20, .q), (21, .q)] [(22, .l), (23, .q), (24, .q), (25, .l), (26, .b)] [(25, .l), (22, .l), (23, .q), (24, .q), (26, .b)] mixed (by kernel_rfl) ?_
            replace hs := hs.drew
            refine EW.move rfl rfl rfl rfl rfl rfl ?_
            refine EW.bin rfl rfl rfl rfl rfl rfl rfl (BV.succ (k := k) (by omega)) ?_
            refine EW.move rfl rfl rfl rfl rfl rfl ?_
            refine EW.bin rfl rfl rfl rfl rfl rfl rfl (BV.remN (a := k + 1) (b := sz) (by omega)) ?_
            rw [← hj]
            refine EW.bin rfl rfl rfl rfl rfl rfl rfl (BV.quoN (a := j) (b := 256) (by decide) (by omega)) ?_
            refine EW.convI (a := ((j / 256 : Nat) : Int)) (b := ((j / 256 : Nat) : Int)) rfl rfl rfl rfl rfl rfl (wrap8 (by omega)) ?_
            refine EW.bin rfl rfl rfl rfl rfl rfl rfl (BV.addB (a := j / 256)) ?_
            refine EW.move rfl rfl rfl rfl rfl rfl ?_
            refine EW.bin rfl rfl rfl rfl rfl rfl rfl (BV.succ (k := k) (by omega)) ?_
            refine EW.move rfl rfl rfl rfl rfl rfl ?_
            refine EW.bin rfl rfl rfl rfl rfl rfl rfl (BV.remN (a := k + 1) (b := sz) (by omega)) ?_
            rw [← hj]
            refine EW.bin rfl rfl rfl rfl rfl rfl rfl (BV.quoN (a := j) (b := 16) (by decide) (by omega)) ?_
            refine EW.bin rfl rfl rfl rfl rfl rfl rfl (BV.remN (a := j / 16) (b := 16) (by decide)) ?_
            refine EW.convI (a := ((j / 16 % 16 : Nat) : Int)) (b := ((j / 16 % 16 : Nat) : Int)) rfl rfl rfl rfl rfl rfl (wrap8 (by omega)) ?_
            refine EW.bin rfl rfl rfl rfl rfl rfl rfl (BV.addB (a := j / 16 % 16)) ?_
            refine EW.move rfl rfl rfl rfl rfl rfl ?_
            refine EW.bin rfl rfl rfl rfl rfl rfl rfl (BV.succ (k := k) (by omega)) ?_
            refine EW.move rfl rfl rfl rfl rfl rfl ?_
            refine EW.bin rfl rfl rfl rfl rfl rfl rfl (BV.remN (a := k + 1) (b := sz) (by omega)) ?_
            rw [← hj]
            refine EW.bin rfl rfl rfl rfl rfl rfl rfl (BV.remN (a := j) (b := 16) (by decide)) ?_
            refine EW.convI (a := ((j % 16 : Nat) : Int)) (b := ((j % 16 : Nat) : Int)) rfl rfl rfl rfl rfl rfl (wrap8 (by omega)) ?_
            refine EW.bin rfl rfl rfl rfl rfl rfl rfl (BV.addB (a := j % 16)) ?_
            refine EW.fork ?_ ?_
            · skip
              refine EW.litN elB (ndB j) hs rfl rfl rfl rfl rfl rfl rfl rfl rfl rfl ?_
              clear hs; intro b235 w hs
              first | refine EW.convBS elB (fun _ => rfl) rfl Tryz.underlying5 (bs := ndB j) hs 0 rfl (.inr (fun h => h)) ?_ | refine EW.convBS elB (fun _ => rfl) rfl Tryz.underlying5 (bs := ndB j) hs 1 rfl (.inr (fun h => h)) ?_
              refine EW.build (α := Unit) (pv := [(0, .string ⟨#[112]⟩), (1, .string ⟨(ndB j).toArray⟩)]) rfl rfl rfl rfl rfl rfl rfl (build44b _ _) ?_
              refine EW.alloc (z := .agg #[.string ByteArray.empty, .string ByteArray.empty]) hs rfl rfl rfl rfl rfl (by kernel_rfl) ?_
              clear hs; intro b27 w hs; dsimp only [Value.cells] at hs
              first | refine EW.storeB hs 0 rfl rfl rfl rfl rfl rfl rfl rfl rfl (by simp [Value.oneCell', Value.cells]) rfl ?_ | refine EW.storeB hs 1 rfl rfl rfl rfl rfl rfl rfl rfl rfl (by simp [Value.oneCell', Value.cells]) rfl ?_ | refine EW.storeB hs 2 rfl rfl rfl rfl rfl rfl rfl rfl rfl (by simp [Value.oneCell', Value.cells]) rfl ?_ | refine EW.storeB hs 3 rfl rfl rfl rfl rfl rfl rfl rfl rfl (by simp [Value.oneCell', Value.cells]) rfl ?_ | refine EW.storeB hs 4 rfl rfl rfl rfl rfl rfl rfl rfl rfl (by simp [Value.oneCell', Value.cells]) rfl ?_ | refine EW.storeB hs 5 rfl rfl rfl rfl rfl rfl rfl rfl rfl (by simp [Value.oneCell', Value.cells]) rfl ?_ | refine EW.storeB hs 6 rfl rfl rfl rfl rfl rfl rfl rfl rfl (by simp [Value.oneCell', Value.cells]) rfl ?_
              clear hs; intro w hs; dsimp only [List.set, setAt] at hs
              refine EW.done ?_
              refine NW.meet (b27) (by repeat (first | exact trivial | (refine ⟨by first | rfl | (congr 2; omega) | (simp; done) | (congr 1; simp; done), ?_⟩))) ?_
              try dsimp only
              first | exact hs.pick [0, 2, 4, 5, 6, 7, 8, 9] (by decide) | exact hs.pick [1, 2, 4, 5, 6, 7, 8, 9] (by decide)
            · skip
              refine EW.alloc (z := .agg #[.string ByteArray.empty, .string ByteArray.empty]) hs rfl rfl rfl rfl rfl (by kernel_rfl) ?_
              clear hs; intro b27 w hs; dsimp only [Value.cells] at hs
              refine EW.litN elB (ndB j) hs rfl rfl rfl rfl rfl rfl rfl rfl rfl rfl ?_
              clear hs; intro b235 w hs
              first | refine EW.convBS elB (fun _ => rfl) rfl Tryz.underlying5 (bs := ndB j) hs 0 rfl (.inr (fun h => h)) ?_ | refine EW.convBS elB (fun _ => rfl) rfl Tryz.underlying5 (bs := ndB j) hs 1 rfl (.inr (fun h => h)) ?_
              refine EW.build (α := Unit) (pv := [(0, .string ⟨#[112]⟩), (1, .string ⟨(ndB j).toArray⟩)]) rfl rfl rfl rfl rfl rfl rfl (build44b _ _) ?_
              first | refine EW.storeB hs 0 rfl rfl rfl rfl rfl rfl rfl rfl rfl (by simp [Value.oneCell', Value.cells]) rfl ?_ | refine EW.storeB hs 1 rfl rfl rfl rfl rfl rfl rfl rfl rfl (by simp [Value.oneCell', Value.cells]) rfl ?_ | refine EW.storeB hs 2 rfl rfl rfl rfl rfl rfl rfl rfl rfl (by simp [Value.oneCell', Value.cells]) rfl ?_ | refine EW.storeB hs 3 rfl rfl rfl rfl rfl rfl rfl rfl rfl (by simp [Value.oneCell', Value.cells]) rfl ?_ | refine EW.storeB hs 4 rfl rfl rfl rfl rfl rfl rfl rfl rfl (by simp [Value.oneCell', Value.cells]) rfl ?_ | refine EW.storeB hs 5 rfl rfl rfl rfl rfl rfl rfl rfl rfl (by simp [Value.oneCell', Value.cells]) rfl ?_ | refine EW.storeB hs 6 rfl rfl rfl rfl rfl rfl rfl rfl rfl (by simp [Value.oneCell', Value.cells]) rfl ?_
              clear hs; intro w hs; dsimp only [List.set, setAt] at hs
              refine EW.done ?_
              refine NW.meet (b27) (by repeat (first | exact trivial | (refine ⟨by first | rfl | (congr 2; omega) | (simp; done) | (congr 1; simp; done), ?_⟩))) ?_
              try dsimp only
              first | exact hs.pick [0, 2, 4, 5, 6, 7, 8, 9] (by decide) | exact hs.pick [1, 2, 4, 5, 6, 7, 8, 9] (by decide)
          · skip
            clear hs
            rintro b27 w hs
            replace hs : St w0 noS w (pgR b1 mb1 p1 ++ (pt b27 (.cells #[.string ⟨#[112]⟩, .string ⟨(ndB j).toArray⟩] 44) :: pt b26 (.cells #[.string ⟨#[112]⟩, .string ⟨(ndB k).toArray⟩] 44) :: pgR b3 mb3 p2)) := hs.pick [2, 3, 4, 0, 1, 5, 6, 7] (by decide)
            refine KW.seq ?_
            refine CW.region (S := noS) [(0, .q), (1, .q), (2, .q), (3, .l)] rfl ?_
            refine EW.move rfl rfl rfl rfl rfl rfl ?_
            refine EW.loadP rfl rfl rfl rfl rfl rfl (by first | assumption | (apply LDP.drew; assumption) | exact St.ld1 hs 0 rfl rfl | exact St.ldA hs 0 rfl rfl rfl | exact St.ld1 hs 1 rfl rfl | exact St.ldA hs 1 rfl rfl rfl | exact St.ld1 hs 2 rfl rfl | exact St.ldA hs 2 rfl rfl rfl | exact St.ld1 hs 3 rfl rfl | exact St.ldA hs 3 rfl rfl rfl | exact St.ld1 hs 4 rfl rfl | exact St.ldA hs 4 rfl rfl rfl | exact St.ld1 hs 5 rfl rfl | exact St.ldA hs 5 rfl rfl rfl | exact St.ld1 hs 6 rfl rfl | exact St.ldA hs 6 rfl rfl rfl) (by first | exact .inl rfl | exact .inr (fun h => h) | exact .inr (fun h => by rw [add_block] at h; exact h.elim ha1 ha2)) ?_
            refine EW.loadP rfl rfl rfl rfl rfl rfl (by first | assumption | (apply LDP.drew; assumption) | exact St.ld1 hs 0 rfl rfl | exact St.ldA hs 0 rfl rfl rfl | exact St.ld1 hs 1 rfl rfl | exact St.ldA hs 1 rfl rfl rfl | exact St.ld1 hs 2 rfl rfl | exact St.ldA hs 2 rfl rfl rfl | exact St.ld1 hs 3 rfl rfl | exact St.ldA hs 3 rfl rfl rfl | exact St.ld1 hs 4 rfl rfl | exact St.ldA hs 4 rfl rfl rfl | exact St.ld1 hs 5 rfl rfl | exact St.ldA hs 5 rfl rfl rfl | exact St.ld1 hs 6 rfl rfl | exact St.ldA hs 6 rfl rfl rfl) (by first | exact .inl rfl | exact .inr (fun h => h) | exact .inr (fun h => by rw [add_block] at h; exact h.elim ha1 ha2)) ?_
            refine EW.callT3 hs 3 (Edge_spec _ b1 mb1 p1 _ (ndL k) (ndL j) (hs.sub 3) h1 hok1 (hsm1.big (by omega)) (ndL_sm _) (ndL_sm _) (hgl.keep hs.keep (fun x => x)) (own_block hs hgl.lt (fun x => x) 3)) rfl rfl rfl rfl rfl Tryz.func19 bd19 nm19 rfl (by first | exact .inl rfl | exact .inr (fun b h => h) | exact .inr (fun b h => ‹∀ b, _ → _› b h)) ?_
            clear hs; intro v241 w H'241 hs hst241 hp241
            obtain ⟨p1b, rfl, h1b⟩ := hp241
            clear hst241
            try simp only [List.cons_append, List.nil_append, List.drop_succ_cons, List.drop_zero] at hs
            have e1 : gE (ringE sz (k + 1)) = (gE (ringE sz k)).edge (ndL k) (ndL j) := by rw [ringE_succ, gE_snoc, hj]
            replace hs : St w0 noS w (pgR b3 mb3 p2 ++ (pt b27 (.cells #[.string ⟨#[112]⟩, .string ⟨(ndB j).toArray⟩] 44) :: pt b26 (.cells #[.string ⟨#[112]⟩, .string ⟨(ndB k).toArray⟩] 44) :: pgR b1 mb1 p1b)) := hs.pick [5, 6, 7, 3, 4, 0, 1, 2] (by decide)
            refine EW.done ?_
            refine NW.seq ?_
            refine KW.seq ?_
            refine CW.region (S := noS) [(0, .q), (1, .q), (2, .q), (3, .q)] rfl ?_
            refine EW.move rfl rfl rfl rfl rfl rfl ?_
            refine EW.bin rfl rfl rfl rfl rfl rfl rfl (BV.add (wrap_i64 (by omega) (by omega))) ?_
            refine EW.move rfl rfl rfl rfl rfl rfl ?_
            refine EW.bin rfl rfl rfl rfl rfl rfl rfl BV.lss ?_
            refine EW.done ?_
            refine NW.seq ?_
            by_cases hk1 : k + 1 < sz
            · refine CW.cond_t rfl (by simpa using (by omega : ((k : Nat) : Int) + 1 < (sz : Int))) ?_
              refine CW.region (S := noS) [(0, .q), (1, .q), (2, .q), (3, .l)] rfl ?_
              refine EW.move rfl rfl rfl rfl rfl rfl ?_
              refine EW.loadP rfl rfl rfl rfl rfl rfl (by first | assumption | (apply LDP.drew; assumption) | exact St.ld1 hs 0 rfl rfl | exact St.ldA hs 0 rfl rfl rfl | exact St.ld1 hs 1 rfl rfl | exact St.ldA hs 1 rfl rfl rfl | exact St.ld1 hs 2 rfl rfl | exact St.ldA hs 2 rfl rfl rfl | exact St.ld1 hs 3 rfl rfl | exact St.ldA hs 3 rfl rfl rfl | exact St.ld1 hs 4 rfl rfl | exact St.ldA hs 4 rfl rfl rfl | exact St.ld1 hs 5 rfl rfl | exact St.ldA hs 5 rfl rfl rfl | exact St.ld1 hs 6 rfl rfl | exact St.ldA hs 6 rfl rfl rfl) (by first | exact .inl rfl | exact .inr (fun h => h) | exact .inr (fun h => by rw [add_block] at h; exact h.elim ha1 ha2)) ?_
              refine EW.loadP rfl rfl rfl rfl rfl rfl (by first | assumption | (apply LDP.drew; assumption) | exact St.ld1 hs 0 rfl rfl | exact St.ldA hs 0 rfl rfl rfl | exact St.ld1 hs 1 rfl rfl | exact St.ldA hs 1 rfl rfl rfl | exact St.ld1 hs 2 rfl rfl | exact St.ldA hs 2 rfl rfl rfl | exact St.ld1 hs 3 rfl rfl | exact St.ldA hs 3 rfl rfl rfl | exact St.ld1 hs 4 rfl rfl | exact St.ldA hs 4 rfl rfl rfl | exact St.ld1 hs 5 rfl rfl | exact St.ldA hs 5 rfl rfl rfl | exact St.ld1 hs 6 rfl rfl | exact St.ldA hs 6 rfl rfl rfl) (by first | exact .inl rfl | exact .inr (fun h => h) | exact .inr (fun h => by rw [add_block] at h; exact h.elim ha1 ha2)) ?_
              refine EW.callT3 hs 3 (Edge_spec _ b3 mb3 p2 _ (ndL k) (ndL j) (hs.sub 3) h3 hok3 (hsm3.big (by omega)) (ndL_sm _) (ndL_sm _) (hgl.keep hs.keep (fun x => x)) (own_block hs hgl.lt (fun x => x) 3)) rfl rfl rfl rfl rfl Tryz.func19 bd19 nm19 rfl (by first | exact .inl rfl | exact .inr (fun b h => h) | exact .inr (fun b h => ‹∀ b, _ → _› b h)) ?_
              clear hs; intro v249 w H'249 hs hst249 hp249
              obtain ⟨p2b, rfl, h3b⟩ := hp249
              clear hst249
              try simp only [List.cons_append, List.nil_append, List.drop_succ_cons, List.drop_zero] at hs
              refine EW.done ?_
              refine NW.blk ?_
              refine NW.seq ?_
              refine CW.region (S := noS) [(0, .q), (1, .q), (2, .q)] rfl ?_
              refine EW.move rfl rfl rfl rfl rfl rfl ?_
              refine EW.bin rfl rfl rfl rfl rfl rfl rfl (BV.add (wrap_i64 (by omega) (by omega))) ?_
              refine EW.assign rfl rfl rfl rfl rfl rfl ?_
              refine EW.done ?_
              refine NW.again ((k + 1, p1b, p2b)) (by first | assumption | (dsimp only; omega) | omega | (simp; omega)) (by repeat (first | exact trivial | (refine ⟨by first | rfl | (congr 2; omega) | (simp; done) | (congr 1; simp; done), ?_⟩))) ?_
              try dsimp only
              have e2 : gE (ringE sz (min (k + 1) (sz - 1))) = (gE (ringE sz (min k (sz - 1)))).edge (ndL k) (ndL j) := by
                rw [show min (k + 1) (sz - 1) = k + 1 from by omega, show min k (sz - 1) = k from by omega]; exact e1
              refine ⟨hkn, by rw [e1]; exact h1b, by rw [e2]; exact h3b, ?_⟩
              exact hs.pick [5, 6, 7, 0, 1, 2] (by decide)
            · refine CW.cond_f rfl (by simpa using (by omega : (sz : Int) ≤ ((k : Nat) : Int) + 1)) ?_
              refine KW.skip ?_
              refine NW.blk ?_
              refine NW.seq ?_
              refine CW.region (S := noS) [(0, .q), (1, .q), (2, .q)] rfl ?_
              refine EW.move rfl rfl rfl rfl rfl rfl ?_
              refine EW.bin rfl rfl rfl rfl rfl rfl rfl (BV.add (wrap_i64 (by omega) (by omega))) ?_
              refine EW.assign rfl rfl rfl rfl rfl rfl ?_
              refine EW.done ?_
              refine NW.again ((k + 1, p1b, p2)) (by first | assumption | (dsimp only; omega) | omega | (simp; omega)) (by repeat (first | exact trivial | (refine ⟨by first | rfl | (congr 2; omega) | (simp; done) | (congr 1; simp; done), ?_⟩))) ?_
              try dsimp only
              refine ⟨hkn, by rw [e1]; exact h1b, by rw [show min (k + 1) (sz - 1) = min k (sz - 1) from by omega]; exact h3, ?_⟩
              exact hs.pick [5, 6, 7, 0, 1, 2] (by decide)
        · refine CW.cond_f rfl (by simpa using hkn) ?_
          obtain rfl : k = sz := by omega
          rw [show min k (k - 1) = k - 1 from by omega] at h3
          obtain ⟨hok1, hsm1⟩ := gE_good (ringE k k) (ringE_sm _ _)
          obtain ⟨hok3, hsm3⟩ := gE_good (ringE k (k - 1)) (ringE_sm _ _)
          rw [ringE_len] at hsm1 hsm3
          have hn1 := hsm1.n
          have hn3 := hsm3.n
          simp only [pgR, List.cons_append, List.nil_append] at hs
          refine KW.exit ?_
          refine XW.seq ?_
          refine XW.inv ?_
          refine XW.blk ?_
          refine NW.seq ?_
          refine KW.seq ?_
          refine CW.region (S := noS) [(0, .q), (1, .l), (2, .q), (3, .q), (4, .q), (5, .q), (6, .q)] rfl ?_
          refine EW.move rfl rfl rfl rfl rfl rfl ?_
          refine EW.callT1 (First_spec _ b1 mb1 p1 (gE (ringE k k)) (PGA.of hs 0 1 2 rfl rfl rfl) h1 hok1 (hsm1.big (by omega)) (by omega) hsm1.nm (hgl.stay hs.keep)) rfl rfl rfl rfl rfl Tryz.func9 bd9 nm9 rfl ?_
          intro v252 w hk252 hp252
          obtain ⟨xr, hir, ⟨A252, n252, c252⟩, rfl, hst⟩ := hp252
          obtain ⟨hr1, hr2, hr3⟩ := ring_law h2 hszb hir
          rw [hr2]
          replace hs := hs.plus hst
          clear hst
          simp only [svV, List.cons_append, List.nil_append] at hs ⊢
          obtain rfl := (own_slA (hs.res 0 rfl)).2.1
          rw [hr3] at hs ⊢
          refine EW.move rfl rfl rfl rfl rfl rfl ?_
          refine EW.extract rfl rfl rfl rfl rfl rfl rfl ?_
          refine EW.extract rfl rfl rfl rfl rfl rfl rfl ?_
          refine EW.assign rfl rfl rfl rfl rfl rfl ?_
          refine EW.assign rfl rfl rfl rfl rfl rfl ?_
          refine EW.done ?_
          refine NW.seq ?_
          refine KW.seq ?_
          refine CW.region (S := noS) [(0, .q), (1, .l), (2, .q), (3, .q), (4, .q), (5, .q), (6, .q)] rfl ?_
          refine EW.move rfl rfl rfl rfl rfl rfl ?_
          refine EW.callT1 (First_spec _ b3 mb3 p2 (gE (ringE k (k - 1))) (PGA.of hs 4 5 6 rfl rfl rfl) h3 hok3 (hsm3.big (by omega)) (by omega) hsm3.nm (hgl.stay hs.keep)) rfl rfl rfl rfl rfl Tryz.func9 bd9 nm9 rfl ?_
          intro v257 w hk257 hp257
          obtain ⟨xc, hic, ⟨A257, n257, c257⟩, rfl, hst⟩ := hp257
          obtain ⟨hc1, hc2⟩ := chain_law h2 hszb hic hok3.nodup
          rw [hc2] at hst ⊢
          replace hs := hs.plus hst
          clear hst
          simp only [svV, List.cons_append, List.nil_append] at hs ⊢
          refine EW.move rfl rfl rfl rfl rfl rfl ?_
          refine EW.extract rfl rfl rfl rfl rfl rfl rfl ?_
          refine EW.extract rfl rfl rfl rfl rfl rfl rfl ?_
          refine EW.assign rfl rfl rfl rfl rfl rfl ?_
          refine EW.assign rfl rfl rfl rfl rfl rfl ?_
          refine EW.done ?_
          refine NW.seq ?_
          refine KW.seq ?_
          refine CW.region (S := noS) [(0, .q), (1, .q), (2, .q), (3, .q), (4, .q), (5, .q), (6, .q), (7, .q), (8, .q), (9, .q), (10, .q), (11, .q), (12, .q), (13, .l), (14, .q), (15, .q), (16, .q), (17, .q), (18, .q), (19, .l), (20, .q), (21, .q), (22, .q), (23, .q), (24, .q)] rfl ?_
          refine EW.move rfl rfl rfl rfl rfl rfl ?_
          refine EW.move rfl rfl rfl rfl rfl rfl ?_
          refine EW.move rfl rfl rfl rfl rfl rfl ?_
          refine EW.not rfl rfl rfl rfl rfl rfl ?_
          refine EW.pick rfl rfl rfl rfl rfl rfl rfl ?_
          refine EW.move rfl rfl rfl rfl rfl rfl ?_
          refine EW.move rfl rfl rfl rfl rfl rfl ?_
          refine EW.len rfl rfl rfl rfl rfl rfl ?_
          refine EW.move rfl rfl rfl rfl rfl rfl ?_
          refine EW.bin rfl rfl rfl rfl rfl rfl rfl BV.eqi ?_
          rw [decide_eq_true (rfl : ((k : Nat) : Int) = ((k : Nat) : Int))]
          refine EW.pick rfl rfl rfl rfl rfl rfl rfl ?_
          refine EW.move rfl rfl rfl rfl rfl rfl ?_
          refine EW.move rfl rfl rfl rfl rfl rfl ?_
          refine EW.callT1 (Parts_spec _ b1 mb1 p1 (gE (ringE k k)) (PGA.of hs 2 3 4 rfl rfl rfl) h1 hok1 (hsm1.big (by omega)) (by omega) hsm1.nm (hgl.stay hs.keep)) rfl rfl rfl rfl rfl Tryz.func8 bd8 nm8 rfl ?_
          intro v273 w hk273 hp273
          obtain ⟨xr2, hir2, qr, hqr, hst⟩ := hp273
          replace hs := hs.plus hst
          clear hst
          simp only [List.cons_append, List.nil_append] at hs
          obtain ⟨A273, c273, rfl, _⟩ := own_sl (hs.res 0 rfl)
          have hqrl : (qr.map (·.1)).length = 1 := (by rw [List.length_map, ← List.length_map (·.2), hqr]; exact (ring_law h2 hszb hir2).1)
          rw [hqrl] at hs ⊢
          refine EW.len rfl rfl rfl rfl rfl rfl ?_
          refine EW.bin rfl rfl rfl rfl rfl rfl rfl BV.eqi ?_
          refine EW.pick rfl rfl rfl rfl rfl rfl rfl ?_
          refine EW.move rfl rfl rfl rfl rfl rfl ?_
          refine EW.move rfl rfl rfl rfl rfl rfl ?_
          refine EW.callT1 (Parts_spec _ b3 mb3 p2 (gE (ringE k (k - 1))) (PGA.of hs 7 8 9 rfl rfl rfl) h3 hok3 (hsm3.big (by omega)) (by omega) hsm3.nm (hgl.stay hs.keep)) rfl rfl rfl rfl rfl Tryz.func8 bd8 nm8 rfl ?_
          intro v279 w hk279 hp279
          obtain ⟨xc2, hic2, qd, hqd, hst⟩ := hp279
          replace hs := hs.plus hst
          clear hst
          simp only [List.cons_append, List.nil_append] at hs
          obtain ⟨A279, c279, rfl, _⟩ := own_sl (hs.res 0 rfl)
          have hqdl : (qd.map (·.1)).length = k := (by rw [List.length_map, ← List.length_map (·.2), hqd]; exact (chain_law h2 hszb hic2 hok3.nodup).1)
          rw [hqdl] at hs ⊢
          refine EW.len rfl rfl rfl rfl rfl rfl ?_
          refine EW.move rfl rfl rfl rfl rfl rfl ?_
          refine EW.bin rfl rfl rfl rfl rfl rfl rfl BV.eqi ?_
          rw [decide_eq_true (rfl : ((k : Nat) : Int) = ((k : Nat) : Int))]
          refine EW.pick rfl rfl rfl rfl rfl rfl rfl ?_
          refine EW.assign rfl rfl rfl rfl rfl rfl ?_
          refine EW.done ?_
          refine NW.seq ?_
          refine KW.ret1 rfl rfl ?_
          refine ⟨_, rfl, hs.keep, ?_⟩
          rfl
end Go.Cw.Tryz
