/- Proved here, as a part of the claim: how the code of the program walks (CwDrawn, CwEager, CwBase, CwOps, CwEl). -/
import Derived.Still
import Derived.Deep.Draws
import Derived.Tactics
import Derived.Laws.OwnMore
import Derived.Maps.AppendAt
import Derived.Laws.CopyRow
import Derived.Laws.Entries
import Derived.Laws.Cells
import Derived.Laws.Rows
import Derived.Laws.StructEq
import Derived.Great.BuildSlice
set_option linter.unusedVariables false
namespace Go.Cw
theorem ask_drawn {α : Type} : ∀ (a : Ask α) (w : World), w.drawn ≤ (w.ask a).2.drawn
  | .done a, w => Nat.le_refl _
  | .ask what range k, w => by
    unfold World.ask
    dsimp only
    split
    · exact ask_drawn _ w
    · exact Nat.le_trans (Nat.le_succ _) (ask_drawn _ { w with drawn := w.drawn + 1 })
theorem sys_drawn (w : World) (c : Sys) : w.drawn ≤ (w.sys c).2.drawn := by
  have h := ask_drawn (Kernel.perform c w.os) w
  unfold World.sys
  split
  · exact Nat.le_refl _
  · rename_i heq
    rw [heq] at h; exact h
theorem ebind {ε α β : Type} {x : Except ε α} {f : α → Except ε β} {b : β} (h : (x >>= f) = .ok b) : ∃ a, x = .ok a ∧ f a = .ok b := by
  cases x with
  | error e => cases h
  | ok a => exact ⟨a, rfl, h⟩
theorem viewStore_drawn {p : Program} {w : World} {at_ : Addr} {u : TypeId} {k : Addr} {v : Value} {at2 : Bool} {r : World × List Addr} (h : w.viewStore p at_ u k v at2 = .ok r) : r.1.drawn = w.drawn := by
  unfold World.viewStore at h
  have tw : ∀ {α β : Type} {m : String} {f : α → Except String β} {b : β}, ((MonadExcept.throw m : Except String α) >>= f) = .ok b → False := fun h => by cases h
  split at h <;> dsimp only at h
  · split at h
    · exact (tw h).elim
    · obtain ⟨⟨_, _, _, _, _, _⟩, _, h⟩ := ebind h
      dsimp only at h
      split at h
      · exact (tw h).elim
      · obtain ⟨_, _, h⟩ := ebind h
        injection h with h; rw [← h]
  · split at h
    · exact (tw h).elim
    · obtain ⟨⟨_, _, _, _, _, _⟩, _, h⟩ := ebind h
      cases h
theorem farStore_drawn {p : Program} {w : World} {a : Addr} {v : Value} {at2 : Bool} {r : World × List Addr} (h : w.farStore p a v at2 = .ok r) : r.1.drawn = w.drawn := by
  unfold World.farStore at h
  split at h
  · split at h
    · rename_i heq; injection h with h; subst h; exact viewStore_drawn heq
    · cases h
  · cases h
theorem freeze_drawn (w : World) (a : Addr) (n : Nat) : (w.freeze a n).drawn = w.drawn := by
  unfold World.freeze; split <;> rfl
/-- A step never takes back what was drawn. -/
theorem run_drawn {α : Type} (p : Program) : ∀ (s : Sem α) (w : World) (v : α) (w' : World), s.run p w = .ok v w' → w.drawn ≤ w'.drawn
  | .pure a, w, v, w', h => by unfold Sem.run at h; injection h with _ h; rw [h]; exact Nat.le_refl _
  | .load m a k, w, v, w', h => by
    unfold Sem.run at h
    split at h
    · exact run_drawn p _ w v w' h
    · split at h
      · exact run_drawn p _ w v w' h
      · cases h
  | .store m a x k, w, v, w', h => by
    have ih := run_drawn p k
    have go : ∀ y : Value, (match w.cell? a with
        | some _ => if w.frozen? a then .halt (.unsupported (.unsafePointer "a write to bytes that a string shares")) w else k.run p (w.setCell a y)
        | none => match w.farStore p a y (m == .atomic) with
          | .ok (w, _) => k.run p w
          | .error h => .halt h w) = Result.ok v w' → w.drawn ≤ w'.drawn := fun y h => by
      split at h
      · split at h
        · cases h
        · exact ih (w.setCell _ _) v w' h
      · split at h
        · rename_i heq
          rw [← farStore_drawn heq]; exact ih _ v w' h
        · cases h
    cases x <;> simp only [Sem.run] at h <;> first | (cases h; done) | exact go _ h
  | .new o k, w, v, w', h => by unfold Sem.run at h; exact run_drawn p _ { w with heap := w.heap.push o } v w' h
  | .shape r k, w, v, w', h => by unfold Sem.run at h; exact run_drawn p _ w v w' h
  | .freeze a n k, w, v, w', h => by unfold Sem.run at h; rw [← freeze_drawn w a n]; exact run_drawn p _ _ v w' h
  | .frozen a k, w, v, w', h => by unfold Sem.run at h; exact run_drawn p _ w v w' h
  | .getObj r k, w, v, w', h => by
    unfold Sem.run at h
    split at h
    · cases h
    · exact run_drawn p _ w v w' h
    · cases h
  | .setObj r o k, w, v, w', h => by
    unfold Sem.run at h
    split at h
    · cases h
    · exact run_drawn p _ { w with heap := w.heap.setIfInBounds r o } v w' h
    · cases h
  | .choose q k, w, v, w', h => by
    unfold Sem.run at h
    split at h
    · exact run_drawn p _ w v w' h
    · exact Nat.le_trans (Nat.le_succ _) (run_drawn p _ { w with drawn := w.drawn + 1 } v w' h)
  | .sys c k, w, v, w', h => by unfold Sem.run at h; exact Nat.le_trans (sys_drawn w c) (run_drawn p _ _ v w' h)
  | .program k, w, v, w', h => by unfold Sem.run at h; exact run_drawn p _ w v w' h
  | .mark _ k, w, v, w', h => by unfold Sem.run at h; exact run_drawn p _ w v w' h
  | .halt _, w, v, w', h => by unfold Sem.run at h; cases h
end Go.Cw
/-
  A WALK OF ONE ORDER SERVES EVERY ORDER: a region whose operations are read-only ('quiet': one value in every later world) or world-changing ('loud', each alone when its turn comes) is walked once.
-/
set_option linter.unusedVariables false
namespace Go.Cw

/-- Outside of S nothing that was there has turned. -/
structure Keep (S : Nat → Prop) (w w' : World) : Prop where
  os : w'.os = w.os
  tape : w'.tape = w.tape
  output : w'.output = w.output
  drawn : w.drawn ≤ w'.drawn
  size : w.heap.size ≤ w'.heap.size
  block : ∀ k, k < w.heap.size → ¬ S k → w'.heap[k]? = w.heap[k]?

abbrev noS : Nat → Prop := fun _ => False

theorem Keep.refl (S : Nat → Prop) (w : World) : Keep S w w := ⟨rfl, rfl, rfl, Nat.le_refl _, Nat.le_refl _, fun _ _ _ => rfl⟩
theorem Keep.trans {S : Nat → Prop} {a b c : World} (h : Keep S a b) (k : Keep S b c) : Keep S a c :=
  ⟨k.os.trans h.os, k.tape.trans h.tape, k.output.trans h.output, Nat.le_trans h.drawn k.drawn, Nat.le_trans h.size k.size,
    fun i hi hs => (k.block i (Nat.lt_of_lt_of_le hi h.size) hs).trans (h.block i hi hs)⟩
theorem Keep.mono {S S' : Nat → Prop} {a b : World} (h : Keep S a b) (hs : ∀ k, k < a.heap.size → S k → S' k) : Keep S' a b :=
  ⟨h.os, h.tape, h.output, h.drawn, h.size, fun i hi hn => h.block i hi fun x => hn (hs i hi x)⟩
theorem Keep.any {S : Nat → Prop} {a b : World} (h : Keep noS a b) : Keep S a b := h.mono fun _ _ x => x.elim
theorem Keep.cell {S : Nat → Prop} {w w' : World} (h : Keep S w w') {a : Addr} {v : Value} (hc : w.cell? a = some v) (hs : ¬ S a.block) : w'.cell? a = some v :=
  (World.cell?_of_block (h.block a.block (World.block_lt_of_cell? w a hc) hs)).trans hc
theorem Keep.drew {S : Nat → Prop} (w : World) : Keep S w w.drew := ⟨rfl, rfl, rfl, Nat.le_succ _, Nat.le_refl _, fun _ _ _ => rfl⟩
theorem Keep.alloc {S : Nat → Prop} (w : World) (o : Obj) : Keep S w (w.alloc o) :=
  ⟨rfl, rfl, rfl, Nat.le_refl _, by simp, fun k hk _ => heap_alloc_old w o k hk⟩

/-- The class of worlds in which a quiet operation is asked: the very world (a region that does not draw), or all later ones. -/
def Cl (m : Bool) (S : Nat → Prop) (w w' : World) : Prop := if m = true then w' = w else Keep S w w'
def Dl (m : Bool) (S : Nat → Prop) (w w' : World) : Prop := if m = true then True else Keep S w w'
def QX (m : Bool) (Q : Exit → Act → World → Prop) : Exit → Act → World → Prop := if m = true then Q else fun _ _ _ => False

section
variable {P : Program} {S : Nat → Prop} {ops : Array Oper} {Q : Exit → Act → World → Prop} {md : Region.Mode}

def Qt (P : Program) (o : Oper) (a : Act) (v : Value) (w : World) : Prop := (execOp a.eval o).run P w = .ok (.value v) w

/-- How an operation goes: quiet; loud; loud, and behind all others. -/
inductive Kd3 where
  | q | l | b
  deriving DecidableEq
/-- THE WALK: the operations by their numbers, in the order given. -/
def WQ (P : Program) (m : Bool) (S : Nat → Prop) (ops : Array Oper) (Q : Exit → Act → World → Prop) : List (Nat × Kd3) → Act → World → Prop
  | [], a, w => Q .normal a w
  | (i, k) :: r, a, w => ∃ o, ops[i]? = some o ∧
      if Region.wanted o (yielded ops a.tmps) then
        match k with
        | .l => o.wp P a w (fun a' w' => Dl m S w w' ∧ WQ P m S ops Q r a' w') (QX m Q)
        | .b => o.wp P a w (fun a' w' => WQ P m S ops Q r a' w') (QX m Q)
        | .q => ∃ v, (∀ w', Cl m S w w' → Qt P o a v w') ∧ WQ P m S ops Q r (a.put o.dst v) w
      else WQ P m S ops Q r (a.put o.dst undef) w

theorem Oper.wp_of_qt {o : Oper} {a : Act} {v : Value} {w : World} {K : Act → World → Prop} {Q : Exit → Act → World → Prop} (h : Qt P o a v w) (hk : K (a.put o.dst v) w) : o.wp P a w K Q := by
  unfold Qt at h
  unfold Oper.wp
  rw [h]
  exact hk

theorem wpOps_of_WQ : ∀ (l : List (Nat × Kd3)) (a : Act) (w : World), WQ P true S ops Q l a w → wpOps P ops Q (l.map (·.1)) a w
  | [], a, w, h => h
  | (i, k) :: r, a, w, h => by
    obtain ⟨o, ho, h⟩ := h
    simp only [List.map_cons, wpOps, ho]
    split
    · rename_i hw
      simp only [hw, if_true] at h
      refine .inl ?_
      cases k with
      | l => exact Oper.wp_mono (K := fun a' w' => Dl true S w w' ∧ WQ P true S ops Q r a' w') (fun a w h => wpOps_of_WQ r a w h.2) (by simpa [QX] using h)
      | b => exact Oper.wp_mono (K := fun a' w' => WQ P true S ops Q r a' w') (fun a w h => wpOps_of_WQ r a w h) (by simpa [QX] using h)
      | q =>
        obtain ⟨v, hv, hn⟩ := h
        exact Oper.wp_of_qt (hv w (by simp [Cl])) (wpOps_of_WQ r _ _ hn)
    · rename_i hw
      simp only [hw] at h
      exact wpOps_of_WQ r _ _ h

/-- A region that does not draw. -/
theorem region_plain {id : Nat} {a : Act} {w : World} (l : List (Nat × Kd3)) (hl : l.map (·.1) = List.range ops.size)
    (h : WQ P true S ops Q l a w) : (Code.region id ops false).wp P Q a w :=
  wp_region (by rw [← hl]; exact wpOps_of_WQ l a w h)

/-! ### Any order -/

def Dk (Br : List Nat) (S : Nat → Prop) (i : Nat) (w w' : World) : Prop := Br.contains i = true ∨ Keep S w w'
def opK (P : Program) (Br : List Nat) (S : Nat → Prop) (ops : Array Oper) (i : Nat) (K : Act → World → Prop) (a : Act) (w : World) : Prop :=
  match ops[i]? with
  | none => K a w
  | some o => if Region.wanted o (yielded ops a.tmps) then o.wp P a w (fun a' w' => Dk Br S i w w' ∧ K a' w') (fun _ _ _ => False) else K (a.put o.dst undef) w

def wpAnyK (P : Program) (Br : List Nat) (md : Region.Mode) (S : Nat → Prop) (ops : Array Oper) (Q : Exit → Act → World → Prop) : Nat → Array Bool → Act → World → Prop
  | 0, listed, a, w => Region.ready md ops listed = [] ∧ Q .normal a w
  | fuel + 1, listed, a, w =>
    (Region.ready md ops listed = [] → Q .normal a w) ∧
    ∀ i ∈ Region.ready md ops listed, opK P Br S ops i (wpAnyK P Br md S ops Q fuel (listed.setIfInBounds i true)) a w

theorem Oper.wp_QF {o : Oper} {a : Act} {w : World} {K K' : Act → World → Prop} (hk : ∀ a w, K a w → K' a w) (h : o.wp P a w K (fun _ _ _ => False)) : o.wp P a w K' Q := by
  unfold Oper.wp at *
  generalize (execOp a.eval o).run P w = r at *
  cases r with
  | ok n w' =>
    cases n <;> simp only [Oper.upon] at h ⊢ <;>
      first
        | exact hk _ _ h
        | exact Calls.mono h (fun e w'' he => by
            cases e with
            | returned v => exact hk _ _ he
            | panicked c => exact he.elim
            | outgrown => exact (by obtain ⟨a, w, h⟩ := he; exact h.elim))
        | exact Rows.mono h (fun _ _ he => hk _ _ he)
  | halt x w' => cases x <;> simp only [Oper.upon] at h ⊢

theorem wpAny_of_K {Br : List Nat} : ∀ (fuel : Nat) (listed : Array Bool) (a : Act) (w : World), wpAnyK P Br md S ops Q fuel listed a w → wpAny P md ops Q fuel listed a w
  | 0, _, _, _, h => h
  | fuel + 1, listed, a, w, h => ⟨h.1, fun i hi => by
      have h1 := h.2 i hi
      unfold opK at h1
      unfold wpOp
      split
      · rename_i ho; simp only [ho] at h1; exact wpAny_of_K fuel _ _ _ h1
      · rename_i o ho
        simp only [ho] at h1
        split
        · rename_i hw
          simp only [hw, if_true] at h1
          exact .inl (Oper.wp_QF (fun a w h => wpAny_of_K fuel _ _ _ h.2) h1)
        · rename_i hw
          simp only [hw] at h1
          exact wpAny_of_K fuel _ _ _ h1⟩

def YieldsK (P : Program) (S : Nat → Prop) (ops : Array Oper) (o : Oper) (v : Value) (a : Act) (w : World) : Prop :=
  (Region.wanted o (yielded ops a.tmps) = true ∧ ∀ w', Keep S w w' → Qt P o a v w') ∨
  (Region.wanted o (yielded ops a.tmps) = false ∧ v = undef)

theorem YieldsK.opK {Br : List Nat} {i : Nat} {o : Oper} {v : Value} {a : Act} {w : World} (hi : ops[i]? = some o) (hy : YieldsK P S ops o v a w) {K : Act → World → Prop} (h : K (a.put o.dst v) w) : opK P Br S ops i K a w := by
  unfold Cw.opK
  simp only [hi]
  rcases hy with ⟨hw, hv⟩ | ⟨hw, rfl⟩
  · simp only [hw, if_true]
    exact Oper.wp_of_qt (hv w (Keep.refl _ _)) ⟨.inr (Keep.refl _ _), h⟩
  · simp only [hw, Bool.false_eq_true, if_false]; exact h

theorem YieldsK.of_same {o : Oper} {v : Value} {a a' : Act} {w w' : World} (hy : YieldsK P S ops o v a w) (he : execOp a'.eval o = execOp a.eval o)
    (hw : Region.wanted o (yielded ops a'.tmps) = Region.wanted o (yielded ops a.tmps)) (hk : Keep S w w') : YieldsK P S ops o v a' w' := by
  unfold YieldsK Qt at *
  rw [he, hw]
  exact hy.imp (fun ⟨h1, h2⟩ => ⟨h1, fun w'' h => h2 w'' (hk.trans h)⟩) id

theorem opK_put {Br : List Nat} {j : Nat} {oi oj : Oper} {v : Value} (hj : ops[j]? = some oj) (hap : oi.apart ops oj = true)
    (hsi : ∀ cs b, oi.op ≠ .select cs b) (hsj : ∀ cs b, oj.op ≠ .select cs b)
    {K : Act → World → Prop} {a : Act} {w : World}
    (hbr : Br.contains j = false) (hy : YieldsK P S ops oi v a w) (h : opK P Br S ops j K (a.put oi.dst v) w) :
    opK P Br S ops j (fun a' w' => YieldsK P S ops oi v a' w' ∧ K (a'.put oi.dst v) w') a w := by
  obtain ⟨h1, h2, h3⟩ := Oper.apart_spec hap
  have kd : ∀ w', Dk Br S j w w' → Keep S w w' := fun w' h => h.resolve_left (by rw [hbr]; simp)
  have keep : ∀ u w', Dk Br S j w w' → YieldsK P S ops oi v (a.put oj.dst u) w' := fun u w' hk =>
    hy.of_same (execOp_put oi hsi a oj.dst u h3) (wanted_put oi a oj.dst u h3) (kd w' hk)
  unfold opK at *
  simp only [hj] at *
  rw [wanted_put oj a oi.dst v h1] at h
  split
  · rename_i hw
    simp only [hw, if_true] at h
    unfold Oper.wp at *
    rw [execOp_put oj hsj a oi.dst v h1] at h
    generalize (execOp a.eval oj).run P w = r at *
    cases r with
    | ok n w' =>
      cases n <;> simp only [Oper.upon] at h ⊢
      case value u => exact ⟨h.1, keep u _ h.1, by rw [← Act.put_comm a v u h2]; exact h.2⟩
      case skip => exact ⟨h.1, keep _ _ h.1, by rw [← Act.put_comm a v undef h2]; exact h.2⟩
      case defer d =>
        refine ⟨h.1, ?_, ?_⟩
        · refine (YieldsK.of_same (a := a) hy ?_ ?_ (kd _ h.1))
          · rw [execOp_put oi hsi _ oj.dst undef h3]; rfl
          · rw [wanted_put oi _ oj.dst undef h3]
        · rw [← Act.put_comm _ v undef h2, ← Act.put_defers]
          exact h.2
      case enter f args =>
        refine Calls.mono h fun e w'' he => ?_
        cases e with
        | returned u => exact ⟨he.1, keep u _ he.1, by rw [← Act.put_comm a v u h2]; exact he.2⟩
        | panicked c => exact he
        | outgrown => exact he
      case row row args => exact Rows.mono h fun u w'' he => ⟨he.1, keep u _ he.1, by rw [← Act.put_comm a v u h2]; exact he.2⟩
    | halt x w' => cases x <;> simp only [Oper.upon] at h ⊢
  · rename_i hw
    simp only [hw] at h
    exact ⟨keep _ _ (.inr (Keep.refl _ _)), by rw [← Act.put_comm a v undef h2]; exact h⟩

theorem opK_mono {Br : List Nat} {i : Nat} {a : Act} {w : World} {K K' : Act → World → Prop} (h : ∀ a w, K a w → K' a w) (hh : opK P Br S ops i K a w) : opK P Br S ops i K' a w := by
  unfold opK at *
  split
  · rename_i ho; simp only [ho] at hh; exact h _ _ hh
  · rename_i o ho
    simp only [ho] at hh
    split
    · rename_i hw; simp only [hw, if_true] at hh; exact Oper.wp_mono (fun a w h' => ⟨h'.1, h _ _ h'.2⟩) hh
    · rename_i hw; simp only [hw] at hh; exact h _ _ hh

/-- Operation j waits for i: straight, or behind one that does. -/
def Waits (md : Region.Mode) (ops : Array Oper) (listed : Array Bool) (i j : Nat) : Prop :=
  ∃ oj, ops[j]? = some oj ∧ ∃ e ∈ oj.after, Region.binds md e = true ∧ (e.on = i ∨ listed.getD e.on false = false ∧ ∃ ok, ops[e.on]? = some ok ∧ ∃ e' ∈ ok.after, Region.binds md e' = true ∧ e'.on = i)
theorem wpAnyK_first {Br : List Nat} {i : Nat} {oi : Oper} {v : Value} (hi : ops[i]? = some oi) (hsel : ∀ (j : Nat) (o : Oper) cs b, ops[j]? = some o → o.op ≠ .select cs b) :
    ∀ (fuel : Nat) (listed : Array Bool) (a : Act) (w : World),
      (∀ j oj, ops[j]? = some oj → j ≠ i → listed.getD j true = false → (∀ e ∈ oj.after, Region.binds md e = true → e.on ≠ i) → oi.apart ops oj = true) →
      (∀ j, Br.contains j = true → j ≠ i → listed.getD j true = false → Waits md ops listed i j) →
      i ∈ Region.ready md ops listed → YieldsK P S ops oi v a w →
      wpAnyK P Br md S ops Q fuel (listed.setIfInBounds i true) (a.put oi.dst v) w → wpAnyK P Br md S ops Q (fuel + 1) listed a w := by
  intro fuel
  induction fuel with
  | zero =>
    intro listed a w _ _ hr hy H
    refine ⟨fun h => (by rw [h] at hr; cases hr), fun j hj => ?_⟩
    by_cases hji : j = i
    · subst hji; exact hy.opK hi H
    · have := ready_mono hj hji
      rw [H.1] at this
      cases this
  | succ fuel ih =>
    intro listed a w hfree hbar hr hy H
    refine ⟨fun h => (by rw [h] at hr; cases hr), fun j hj => ?_⟩
    by_cases hji : j = i
    · subst hji; exact hy.opK hi H
    · have h1 := H.2 j (ready_mono hj hji)
      obtain ⟨hjun, oj, hoj, hall⟩ := mem_ready.1 hj
      have hnot : ∀ e ∈ oj.after, Region.binds md e = true → e.on ≠ i := fun e he hb heq => by
        have h1 := hall e he hb
        have h0 := (mem_ready.1 hr).1
        rw [heq] at h1
        rcases Nat.lt_or_ge i listed.size with h' | h'
        · simp [h'] at h0 h1; rw [h0] at h1; cases h1
        · simp [Array.getElem?_eq_none h'] at h1
      have hbr : Br.contains j = false := by
        cases hb : Br.contains j with
        | false => rfl
        | true =>
          obtain ⟨oj', hoj', e, he, hbd, heq⟩ := hbar j hb hji hjun
          rw [hoj] at hoj'; injection hoj' with hoj'; subst hoj'
          rcases heq with heq | ⟨heq, _⟩
          · exact absurd heq (hnot e he hbd)
          · rw [hall e he hbd] at heq; cases heq
      have h2 := opK_put hoj (hfree j oj hoj hji hjun hnot) (fun cs b => hsel i oi cs b hi) (fun cs b => hsel j oj cs b hoj) hbr hy h1
      have hbar' : ∀ k, Br.contains k = true → k ≠ i → (listed.setIfInBounds j true).getD k true = false → Waits md ops (listed.setIfInBounds j true) i k := fun k hk hki hun => by
        obtain ⟨ok, hok, e, he, hbd, heq⟩ := hbar k hk hki (by
          by_cases hjk : j = k
          · subst hjk; exact hjun
          · rw [getD_set_ne true hjk] at hun; exact hun)
        refine ⟨ok, hok, e, he, hbd, heq.imp id fun ⟨h1, om, hom, e', he', hbd', heq'⟩ => ⟨?_, om, hom, e', he', hbd', heq'⟩⟩
        by_cases hje : j = e.on
        · rw [← hje, hoj] at hom; injection hom with hom; subst hom
          exact absurd heq' (hnot e' he' hbd')
        · rw [getD_set_ne false hje]; exact h1
      have hfree' : ∀ k ok, ops[k]? = some ok → k ≠ i → (listed.setIfInBounds j true).getD k true = false →
          (∀ e ∈ ok.after, Region.binds md e = true → e.on ≠ i) → oi.apart ops ok = true := fun k ok hk hki hun hno => by
        refine hfree k ok hk hki ?_ hno
        by_cases hjk : j = k
        · subst hjk; exact hjun
        · rw [getD_set_ne true hjk] at hun; exact hun
      refine opK_mono (fun a' w' h3 => ih (listed.setIfInBounds j true) a' w' hfree' hbar' (ready_mono hr (Ne.symm hji)) h3.1 ?_) h2
      rw [Array.setIfInBounds_comm _ _ hji]
      exact h3.2

def barOK (md : Region.Mode) (ops : Array Oper) (Br : List Nat) (listed : Array Bool) (i : Nat) : Bool :=
  Br.all fun j => j == i || listed.getD j true || match ops[j]? with
    | some oj => oj.after.any fun e => Region.binds md e && (e.on == i || (!listed.getD e.on false && match ops[e.on]? with
      | some ok => ok.after.any fun e' => Region.binds md e' && e'.on == i
      | none => false))
    | none => false
theorem barOK_spec {Br : List Nat} {listed : Array Bool} {i : Nat} (h : barOK md ops Br listed i = true) (j : Nat) (hj : Br.contains j = true) (hji : j ≠ i) (hun : listed.getD j true = false) :
    Waits md ops listed i j := by
  have h1 := List.all_eq_true.1 h j (by simpa using hj)
  have hne : (j == i) = false := by simpa using hji
  rw [hne, hun] at h1
  simp only [Bool.false_or] at h1
  split at h1
  · rename_i oj ho
    obtain ⟨e, he, hb⟩ := Array.any_eq_true'.1 h1
    simp only [Bool.and_eq_true, Bool.or_eq_true, beq_iff_eq] at hb
    refine ⟨oj, ho, e, he, hb.1, hb.2.imp id fun ⟨h2, h3⟩ => ?_⟩
    split at h3
    · rename_i ok hok
      obtain ⟨e', he', hb'⟩ := Array.any_eq_true'.1 h3
      simp only [Bool.and_eq_true, beq_iff_eq] at hb'
      exact ⟨by simpa using h2, ok, hok, e', he', hb'.1, hb'.2⟩
    · cases h3
  · cases h1
def eagerFrom (md : Region.Mode) (ops : Array Oper) (Br : List Nat) : List (Nat × Kd3) → Array Bool → Bool
  | [], listed => (Region.ready md ops listed).isEmpty
  | (i, .l) :: r, listed => (Region.ready md ops listed == [i]) && eagerFrom md ops Br r (listed.setIfInBounds i true)
  | (i, .b) :: r, listed => (Region.ready md ops listed == [i]) && Br.contains i && eagerFrom md ops Br r (listed.setIfInBounds i true)
  | (i, .q) :: r, listed => (Region.ready md ops listed).contains i && Region.free md ops listed i && barOK md ops Br listed i && eagerFrom md ops Br r (listed.setIfInBounds i true)
def barsOf : List (Nat × Kd3) → List Nat
  | [] => []
  | (i, .b) :: r => i :: barsOf r
  | (_, _) :: r => barsOf r
def eagerOK (ops : Array Oper) (l : List (Nat × Kd3)) : Bool := Region.noSelect ops && (l.length == ops.size) && eagerFrom .any ops (barsOf l) l (Array.replicate ops.size false)

theorem wpAnyK_of_WQ {Br : List Nat} (hs : Region.noSelect ops = true) : ∀ (l : List (Nat × Kd3)) (listed : Array Bool) (a : Act) (w : World),
    eagerFrom md ops Br l listed = true → WQ P false S ops Q l a w → wpAnyK P Br md S ops Q l.length listed a w
  | [], _, _, _, hB, h => ⟨by simpa [eagerFrom] using hB, h⟩
  | (i, .l) :: r, listed, a, w, hB, h => by
    simp only [eagerFrom, Bool.and_eq_true, beq_iff_eq] at hB
    obtain ⟨o, ho, h⟩ := h
    refine ⟨fun h0 => (by rw [h0] at hB; cases hB.1), fun j hj => ?_⟩
    rw [hB.1] at hj
    obtain rfl : j = i := by simpa using hj
    unfold opK
    simp only [ho]
    split
    · rename_i hw
      simp only [hw, if_true] at h
      have h' : o.wp P a w (fun a' w' => Keep S w w' ∧ WQ P false S ops Q r a' w') (fun _ _ _ => False) := by simpa [QX, Dl] using h
      exact Oper.wp_mono (fun a' w' h => ⟨.inr h.1, wpAnyK_of_WQ hs r _ a' w' hB.2 h.2⟩) h'
    · rename_i hw
      simp only [hw] at h
      exact wpAnyK_of_WQ hs r _ _ _ hB.2 h
  | (i, .b) :: r, listed, a, w, hB, h => by
    simp only [eagerFrom, Bool.and_eq_true, beq_iff_eq] at hB
    obtain ⟨o, ho, h⟩ := h
    refine ⟨fun h0 => (by rw [h0] at hB; cases hB.1.1), fun j hj => ?_⟩
    rw [hB.1.1] at hj
    obtain rfl : j = i := by simpa using hj
    unfold opK
    simp only [ho]
    split
    · rename_i hw
      simp only [hw, if_true] at h
      have h' : o.wp P a w (fun a' w' => WQ P false S ops Q r a' w') (fun _ _ _ => False) := by simpa [QX] using h
      exact Oper.wp_mono (fun a' w' h => ⟨.inl hB.1.2, wpAnyK_of_WQ hs r _ a' w' hB.2 h⟩) h'
    · rename_i hw
      simp only [hw] at h
      exact wpAnyK_of_WQ hs r _ _ _ hB.2 h
  | (i, .q) :: r, listed, a, w, hB, h => by
    simp only [eagerFrom, Bool.and_eq_true] at hB
    obtain ⟨⟨⟨hr, hf⟩, hbar⟩, hB'⟩ := hB
    obtain ⟨o, ho, h⟩ := h
    by_cases hw : Region.wanted o (yielded ops a.tmps) = true
    · simp only [hw, if_true] at h
      obtain ⟨v, hv, hn⟩ := h
      exact wpAnyK_first ho (Region.noSelect_spec hs) r.length listed a w (Region.free_spec ho hf) (barOK_spec hbar) (by simpa using hr) (.inl ⟨hw, fun w' hk => hv w' (by simpa [Cl] using hk)⟩)
        (wpAnyK_of_WQ hs r _ _ _ hB' hn)
    · simp only [hw] at h
      exact wpAnyK_first ho (Region.noSelect_spec hs) r.length listed a w (Region.free_spec ho hf) (barOK_spec hbar) (by simpa using hr) (.inr ⟨by simpa using hw, rfl⟩)
        (wpAnyK_of_WQ hs r _ _ _ hB' h)

/-! ### Two loud operations that may come in either order -/
def eagerFork (md : Region.Mode) (ops : Array Oper) (Br : List Nat) (listed : Array Bool) : List (Nat × Kd3) → List (Nat × Kd3) → Bool
  | (i, .l) :: r1, (j, .l) :: r2 => (Region.ready md ops listed == [i, j]) && (r1.length == r2.length) && eagerFrom md ops Br r1 (listed.setIfInBounds i true) && eagerFrom md ops Br r2 (listed.setIfInBounds j true)
  | _, _ => false
def eagerTo (md : Region.Mode) (ops : Array Oper) (Br : List Nat) (l1 l2 : List (Nat × Kd3)) : List (Nat × Kd3) → Array Bool → Bool
  | [], listed => eagerFork md ops Br listed l1 l2
  | (i, .l) :: r, listed => (Region.ready md ops listed == [i]) && eagerTo md ops Br l1 l2 r (listed.setIfInBounds i true)
  | (_, .b) :: _, _ => false
  | (i, .q) :: r, listed => (Region.ready md ops listed).contains i && Region.free md ops listed i && barOK md ops Br listed i && eagerTo md ops Br l1 l2 r (listed.setIfInBounds i true)
def QF (P : Program) (S : Nat → Prop) (ops : Array Oper) (Q : Exit → Act → World → Prop) (l1 l2 : List (Nat × Kd3)) : Exit → Act → World → Prop
  | .normal, a, w => WQ P false S ops Q l1 a w ∧ WQ P false S ops Q l2 a w
  | _, _, _ => False
theorem opK_of_loud {Br : List Nat} {i : Nat} {r : List (Nat × Kd3)} {a : Act} {w : World} (hs : Region.noSelect ops = true) (listed : Array Bool) (hB : eagerFrom md ops Br r listed = true) (h : WQ P false S ops Q ((i, .l) :: r) a w) : opK P Br S ops i (wpAnyK P Br md S ops Q r.length listed) a w := by
  obtain ⟨o, ho, h⟩ := h
  unfold opK
  simp only [ho]
  split
  · rename_i hw
    simp only [hw, if_true] at h
    have h' : o.wp P a w (fun a' w' => Keep S w w' ∧ WQ P false S ops Q r a' w') (fun _ _ _ => False) := by simpa [QX, Dl] using h
    exact Oper.wp_mono (fun a' w' h => ⟨.inr h.1, wpAnyK_of_WQ hs r _ a' w' hB h.2⟩) h'
  · rename_i hw
    simp only [hw] at h
    exact wpAnyK_of_WQ hs r _ _ _ hB h
theorem wpAnyK_fork {Br : List Nat} (hs : Region.noSelect ops = true) : ∀ (l1 l2 : List (Nat × Kd3)) (listed : Array Bool) (a : Act) (w : World),
    eagerFork md ops Br listed l1 l2 = true → WQ P false S ops Q l1 a w → WQ P false S ops Q l2 a w → wpAnyK P Br md S ops Q l1.length listed a w
  | [], _, _, _, _, hB, _, _ => by simp [eagerFork] at hB
  | (_, .q) :: _, _, _, _, _, hB, _, _ => by simp [eagerFork] at hB
  | (_, .b) :: _, _, _, _, _, hB, _, _ => by simp [eagerFork] at hB
  | (_, .l) :: _, [], _, _, _, hB, _, _ => by simp [eagerFork] at hB
  | (_, .l) :: _, (_, .q) :: _, _, _, _, hB, _, _ => by simp [eagerFork] at hB
  | (_, .l) :: _, (_, .b) :: _, _, _, _, hB, _, _ => by simp [eagerFork] at hB
  | (i, .l) :: r1, (j, .l) :: r2, listed, a, w, hB, h1, h2 => by
    simp only [eagerFork, Bool.and_eq_true, beq_iff_eq] at hB
    obtain ⟨⟨⟨hr, hl⟩, hB1⟩, hB2⟩ := hB
    refine ⟨fun h0 => (by rw [h0] at hr; cases hr), fun k hk => ?_⟩
    rw [hr] at hk
    rcases List.mem_cons.1 hk with rfl | hk
    · exact opK_of_loud hs _ hB1 h1
    · obtain rfl : k = j := by simpa using hk
      have := opK_of_loud hs _ hB2 h2
      rw [← hl] at this
      exact this
theorem wpAnyK_of_WQF {Br : List Nat} (hs : Region.noSelect ops = true) (l1 l2 : List (Nat × Kd3)) : ∀ (l : List (Nat × Kd3)) (listed : Array Bool) (a : Act) (w : World),
    eagerTo md ops Br l1 l2 l listed = true → WQ P false S ops (QF P S ops Q l1 l2) l a w → wpAnyK P Br md S ops Q (l.length + l1.length) listed a w
  | [], listed, a, w, hB, h => by
    have := wpAnyK_fork hs l1 l2 listed a w hB h.1 h.2
    simpa using this
  | (i, .l) :: r, listed, a, w, hB, h => by
    simp only [eagerTo, Bool.and_eq_true, beq_iff_eq] at hB
    obtain ⟨o, ho, h⟩ := h
    rw [List.length_cons, Nat.add_right_comm]
    refine ⟨fun h0 => (by rw [h0] at hB; cases hB.1), fun j hj => ?_⟩
    rw [hB.1] at hj
    obtain rfl : j = i := by simpa using hj
    unfold opK
    simp only [ho]
    split
    · rename_i hw
      simp only [hw, if_true] at h
      have h' : o.wp P a w (fun a' w' => Keep S w w' ∧ WQ P false S ops (QF P S ops Q l1 l2) r a' w') (fun _ _ _ => False) := by simpa [QX, Dl] using h
      exact Oper.wp_mono (fun a' w' h => ⟨.inr h.1, wpAnyK_of_WQF hs l1 l2 r _ a' w' hB.2 h.2⟩) h'
    · rename_i hw
      simp only [hw] at h
      exact wpAnyK_of_WQF hs l1 l2 r _ _ _ hB.2 h
  | (_, .b) :: _, _, _, _, hB, _ => by simp [eagerTo] at hB
  | (i, .q) :: r, listed, a, w, hB, h => by
    simp only [eagerTo, Bool.and_eq_true] at hB
    obtain ⟨⟨⟨hr, hf⟩, hbar⟩, hB'⟩ := hB
    obtain ⟨o, ho, h⟩ := h
    rw [List.length_cons, Nat.add_right_comm]
    by_cases hw : Region.wanted o (yielded ops a.tmps) = true
    · simp only [hw, if_true] at h
      obtain ⟨v, hv, hn⟩ := h
      exact wpAnyK_first ho (Region.noSelect_spec hs) _ listed a w (Region.free_spec ho hf) (barOK_spec hbar) (by simpa using hr) (.inl ⟨hw, fun w' hk => hv w' (by simpa [Cl] using hk)⟩)
        (wpAnyK_of_WQF hs l1 l2 r _ _ _ hB' hn)
    · simp only [hw] at h
      exact wpAnyK_first ho (Region.noSelect_spec hs) _ listed a w (Region.free_spec ho hf) (barOK_spec hbar) (by simpa using hr) (.inr ⟨by simpa using hw, rfl⟩)
        (wpAnyK_of_WQF hs l1 l2 r _ _ _ hB' h)
def eagerOK2 (ops : Array Oper) (l l1 l2 : List (Nat × Kd3)) : Bool := Region.noSelect ops && (l.length + l1.length == ops.size) && eagerTo .any ops (barsOf l1) l1 l2 l (Array.replicate ops.size false)
theorem region_eager2 {id : Nat} {a : Act} {w : World} (S : Nat → Prop) (l l1 l2 : List (Nat × Kd3)) (hm : P.follows .mixedOrders = true) (hl : eagerOK2 ops l l1 l2 = true)
    (h : WQ P false S ops (QF P S ops Q l1 l2) l a w.drew) : (Code.region id ops true).wp P Q a w := by
  simp only [eagerOK2, Bool.and_eq_true, beq_iff_eq] at hl
  refine wp_region_any hm (wpAny_of_K _ _ _ _ (S := S) (Br := barsOf l1) ?_)
  have := wpAnyK_of_WQF (md := .any) hl.1.1 l1 l2 l _ a w.drew hl.2 h
  rw [hl.1.2] at this
  exact this

/-- A region that draws its order. -/
theorem region_eager {id : Nat} {a : Act} {w : World} (S : Nat → Prop) (l : List (Nat × Kd3)) (hm : P.follows .mixedOrders = true) (hl : eagerOK ops l = true)
    (h : WQ P false S ops Q l a w.drew) : (Code.region id ops true).wp P Q a w := by
  simp only [eagerOK, Bool.and_eq_true, beq_iff_eq] at hl
  refine wp_region_any hm (wpAny_of_K _ _ _ _ (S := S) (Br := barsOf l) ?_)
  have := wpAnyK_of_WQ (md := .any) hl.1.1 l _ a w.drew hl.2 h
  rw [hl.1.2] at this
  exact this
end
end Go.Cw
/-
  THE WALK's RULES over any program: a frame as a list of slots, memory as a list of resources.
-/
set_option linter.unusedVariables false
namespace Go.Cw

abbrev Env := List (Nat × Value)
def lk : Env → Nat → Option Value
  | [], _ => none
  | (k, v) :: r, n => cond (Nat.beq k n) (some v) (lk r n)

structure Frm (n : Nat) (a : Act) (e : Env) : Prop where
  size : a.tmps.size = n
  defers : a.defers = []
  get : ∀ k v, lk e k = some v → a.tmps[k]? = some v

theorem Frm.put {n : Nat} {a : Act} {e : Env} (h : Frm n a e) {d : Nat} (hd : Nat.blt d n = true) (v : Value) : Frm n (a.put (some d) v) ((d, v) :: e) := {
  size := by simp [Act.put, h.size]
  defers := h.defers
  get := fun k u hk => by
    have hdn : d < n := by simpa [Nat.blt_eq] using hd
    unfold lk at hk
    by_cases hdk : d = k
    · subst hdk
      simp only [Nat.beq_refl, cond_true] at hk
      injection hk with hk; subst hk
      simp [Act.put, h.size, hdn]
    · have hb : Nat.beq d k = false := by
        cases hbb : Nat.beq d k with
        | false => rfl
        | true => exact absurd (Nat.eq_of_beq_eq_true hbb) hdk
      rw [hb] at hk
      simp only [cond_false] at hk
      simp only [Act.put, Array.getElem?_setIfInBounds_ne hdk]
      exact h.get k u hk }

def AllLk (e : Env) : Env → Prop
  | [] => True
  | (k, v) :: r => lk e k = some v ∧ AllLk e r

theorem lk_all {e : Env} : ∀ {e' : Env}, AllLk e e' → ∀ k v, lk e' k = some v → lk e k = some v
  | [], _, k, v, h => by simp [lk] at h
  | (k0, v0) :: r, ⟨h1, h2⟩, k, v, h => by
    unfold lk at h
    cases hb : Nat.beq k0 k with
    | true =>
      rw [hb] at h; simp only [cond_true] at h
      injection h with h; subst h
      rw [← Nat.eq_of_beq_eq_true hb]; exact h1
    | false => rw [hb] at h; simp only [cond_false] at h; exact lk_all h2 k v h

theorem Frm.sub {n : Nat} {a : Act} {e e' : Env} (h : Frm n a e) (hs : AllLk e e') : Frm n a e' := ⟨h.size, h.defers, fun k v hk => h.get k v (lk_all hs k v hk)⟩

def ev (e : Env) : Operand → Option Value
  | .tmp t => lk e t
  | .const v => some v
  | .global g => some (.pointer (some ⟨g, 0, none⟩))
  | .func f => some (.func (.func f) #[] #[])
theorem Frm.eval {n : Nat} {a : Act} {e : Env} (h : Frm n a e) {x : Operand} {v : Value} (hx : ev e x = some v) : a.eval x = v := by
  cases x with
  | tmp t => simp [Act.eval, h.get t v hx]
  | const u => simpa [ev, Act.eval] using hx
  | global g => simpa [ev, Act.eval] using hx
  | func f => simpa [ev, Act.eval] using hx

def wantedE (ops : Array Oper) (e : Env) (o : Oper) : Option Bool :=
  match o.guard with
  | none => some true
  | some (j, b) => match (ops[j]?).bind (·.dst) with
    | some t => match lk e t with
      | some (.bool c) => some (c == b)
      | some v => match v with
        | .tuple _ => some false
        | _ => none
      | _ => none
    | none => none
theorem Frm.wanted {n : Nat} {a : Act} {e : Env} (h : Frm n a e) {ops : Array Oper} {o : Oper} {b : Bool} (hw : wantedE ops e o = some b) : Region.wanted o (yielded ops a.tmps) = b := by
  unfold wantedE at hw
  unfold Region.wanted
  split at hw
  · rename_i hg; rw [hg]; simpa using hw
  · rename_i j c hg
    rw [hg]
    simp only
    unfold yielded
    split at hw
    · rename_i t ht
      rw [ht]
      simp only [Option.bind_some]
      split at hw
      · rename_i d hd
        rw [h.get _ _ hd]
        simp only [Option.some.injEq] at hw ⊢
        rw [← hw]
        cases d <;> cases c <;> rfl
      · rename_i v _ hv
        rw [h.get _ _ hv]
        split at hw
        · simp only [Option.some.injEq] at hw; rw [← hw]; rfl
        · cases hw
      · cases hw
    · cases hw

section
variable {P : Program} {m : Bool} {S : Nat → Prop} {n : Nat} {ops : Array Oper} {Q : Exit → Act → World → Prop}

def EW (P : Program) (m : Bool) (S : Nat → Prop) (n : Nat) (ops : Array Oper) (Q : Exit → Act → World → Prop) (l : List (Nat × Kd3)) (e : Env) (w : World) : Prop :=
  ∀ a, Frm n a e → WQ P m S ops Q l a w
def CW (P : Program) (n : Nat) (c : Code) (Q : Exit → Act → World → Prop) (e : Env) (w : World) : Prop := ∀ a, Frm n a e → c.wp P Q a w

/-! ### Code -/
theorem CW.seq {x y : Code} {e : Env} {w : World} (h : CW P n x (Exit.then (fun a w => y.wp P Q a w) Q) e w) : CW P n (.seq x y) Q e w := fun a ha => wp_seq (h a ha)
theorem CW.block {id : Nat} {c : Code} {e : Env} {w : World} (h : CW P n c (Exit.inBlock id Q) e w) : CW P n (.block id c) Q e w := fun a ha => wp_block (h a ha)
theorem CW.skip {K : Act → World → Prop} {e : Env} {w : World} (h : ∀ a, Frm n a e → Q .normal a w) : CW P n .skip Q e w := fun a ha => wp_skip (h a ha)
theorem CW.exit {id : Nat} {e : Env} {w : World} (h : ∀ a, Frm n a e → Q (.exit id) a w) : CW P n (.exit id) Q e w := fun a ha => wp_exit (h a ha)
theorem CW.goto {l : Nat} {e : Env} {w : World} (h : ∀ a, Frm n a e → Q (.goto l) a w) : CW P n (.goto l) Q e w := fun a ha => wp_goto (h a ha)
theorem CW.label {l : Nat} {e : Env} {w : World} (h : ∀ a, Frm n a e → Q .normal a w) : CW P n (.label l) Q e w := fun a ha => wp_label (h a ha)
theorem CW.ret {e : Env} {w : World} (h : ∀ a, Frm n a e → Q .ret a w) : CW P n .ret Q e w := fun a ha => wp_ret (h a ha)
theorem CW.cond {c : Operand} {x y : Code} {e : Env} {w : World} {t : Bool} (hc : ev e c = some (.bool t)) (ht : t = true → CW P n x Q e w) (hf : t = false → CW P n y Q e w) : CW P n (.cond c x y) Q e w :=
  fun a ha => wp_cond_split (ha.eval hc) (fun h => ht h a ha) (fun h => hf h a ha)
theorem CW.cond_t {c : Operand} {x y : Code} {e : Env} {w : World} {t : Bool} (hc : ev e c = some (.bool t)) (ht : t = true) (h : CW P n x Q e w) : CW P n (.cond c x y) Q e w := CW.cond hc (fun _ => h) (fun hf => by rw [ht] at hf; cases hf)
theorem CW.cond_f {c : Operand} {x y : Code} {e : Env} {w : World} {t : Bool} (hc : ev e c = some (.bool t)) (ht : t = false) (h : CW P n y Q e w) : CW P n (.cond c x y) Q e w := CW.cond hc (fun hf => by rw [ht] at hf; cases hf) (fun _ => h)
/-- The ways through x meet again. -/
theorem CW.cut {x y : Code} {e : Env} {w : World} {ι : Type} (E : ι → Env) (I : ι → World → Prop)
    (h : CW P n x (Exit.then (fun a w' => ∃ i, Frm n a (E i) ∧ I i w') Q) e w) (hy : ∀ i w', I i w' → CW P n y Q (E i) w') : CW P n (.seq x y) Q e w :=
  fun a ha => wp_seq (wp_mono (h a ha) fun ex a' w' hq => by
    cases ex <;> first | exact (let ⟨i, hf, hi⟩ := hq; hy i w' hi a' hf) | exact hq)
/-- A loop: what holds at its head is told by i. -/
theorem CW.loop {c : Code} {e : Env} {w : World} {ι : Type} (μ : ι → Nat) (E : ι → Env) (I : ι → World → Prop) (i0 : ι) (he : AllLk e (E i0)) (h0 : I i0 w)
    (round : ∀ i w, I i w → CW P n c (Exit.then (fun a' w' => ∃ j, μ j < μ i ∧ Frm n a' (E j) ∧ I j w') Q) (E i) w) : CW P n (.loop c) Q e w := by
  have key : ∀ k i w a, μ i = k → I i w → Frm n a (E i) → (Code.loop c).wp P Q a w := by
    intro k i w a hk hi ha b kk cs
    have key2 : ∀ k i w a, μ i = k → I i w → Frm n a (E i) → ∃ ex a' w', Q ex a' w' ∧ Arrives P (lone (b.at a (.code c :: .inLoop c :: kk)) cs w) b kk cs ex a' w' := by
      intro k
      induction k using Nat.strongRecOn with
      | _ k ih =>
        intro i w a hk hi ha
        obtain ⟨ex, a₁, w₁, hq, harr⟩ := round i w hi a ha b (.inLoop c :: kk) cs
        cases ex with
        | normal =>
          obtain ⟨j, hlt, hf, hj⟩ := hq
          obtain ⟨e₂, a₂, w₂, hq₂, harr₂⟩ := ih (μ j) (hk ▸ hlt) j w₁ a₁ rfl hj hf
          exact ⟨e₂, a₂, w₂, hq₂, .of_steps (Steps.trans harr (.one step_inLoop)) harr₂⟩
        | exit id => exact ⟨_, a₁, w₁, hq, .pass (x := .inLoop c) rfl (fun _ _ => .inl (by simp)) harr⟩
        | goto l => exact ⟨_, a₁, w₁, hq, .pass (x := .inLoop c) rfl (fun _ _ => .inl (by simp)) harr⟩
        | ret => exact ⟨_, a₁, w₁, hq, .pass (x := .inLoop c) rfl (fun _ _ => .inl (by simp)) harr⟩
        | panic ch => exact ⟨_, a₁, w₁, hq, .pass (x := .inLoop c) rfl (fun _ _ => .inl (by simp)) harr⟩
        | outgrown => exact ⟨_, a₁, w₁, hq, .pass (x := .inLoop c) rfl (fun _ _ => .inl (by simp)) harr⟩
    obtain ⟨e', a', w', hq, harr⟩ := key2 k i w a hk hi ha
    exact ⟨e', a', w', hq, .of_steps (.one step_loop) harr⟩
  exact fun a ha => key _ i0 w a rfl h0 (ha.sub he)
theorem CW.sub {c : Code} {e e' : Env} {w : World} (hs : AllLk e e') (h : CW P n c Q e' w) : CW P n c Q e w := fun a ha => h a (ha.sub hs)

/-- A whole function. -/
def argsE : List Value → Nat → Env
  | [], _ => []
  | v :: r, k => (k, v) :: argsE r (k + 1)
theorem argsE_get : ∀ (l : List Value) (s k : Nat) (v : Value), lk (argsE l s) k = some v → s ≤ k ∧ l[k - s]? = some v
  | [], _, _, _, h => by simp [argsE, lk] at h
  | x :: r, s, k, v, h => by
    unfold argsE lk at h
    cases hb : Nat.beq s k with
    | true =>
      rw [hb] at h; simp only [cond_true] at h
      injection h with h; subst h
      have := Nat.eq_of_beq_eq_true hb
      subst this; simp
    | false =>
      rw [hb] at h; simp only [cond_false] at h
      obtain ⟨h1, h2⟩ := argsE_get r (s + 1) k v h
      refine ⟨by omega, ?_⟩
      rw [show k - s = (k - (s + 1)) + 1 from by omega]
      simpa using h2
theorem calls_of_CW {f : FuncId} {fn : Func} {c : Code} {args : List Value} {w : World} {R : Ending → World → Prop}
    (hf : P.funcs[f]? = some fn) (hb : fn.body = some c) (hn : fn.ntmps = n) (hl : Nat.ble args.length n = true)
    (h : CW P n c (bodyPost P fn R) (argsE args 0) w) : Calls P f args.toArray w R := by
  have hl' : args.length ≤ n := by simpa [Nat.ble_eq] using hl
  refine calls_of_wp hf hb (h _ ⟨by simp [hn]; omega, rfl, fun k v hk => ?_⟩)
  obtain ⟨_, h2⟩ := argsE_get args 0 k v hk
  simp only [Nat.sub_zero] at h2
  have : k < args.length := (List.getElem?_eq_some_iff.1 h2).1
  rw [Array.getElem?_append_left (by simpa using this)]
  simpa using h2

theorem post_ret1 {fn : Func} {R : Ending → World → Prop} {a : Act} {e : Env} {w : World} {t : Tmp} {v : Value} (ha : Frm n a e) (hr : fn.results = #[.tmp t]) (hv : lk e t = some v) (h : R (.returned v) w) : bodyPost P fn R .ret a w :=
  ⟨ha.defers, v, by rw [results_tmp hr]; simp [ha.get _ _ hv], h⟩
theorem post_ret2 {fn : Func} {R : Ending → World → Prop} {a : Act} {e : Env} {w : World} {t u : Tmp} {v x : Value} (ha : Frm n a e) (hr : fn.results = #[.tmp t, .tmp u]) (hv : lk e t = some v) (hx : lk e u = some x) (h : R (.returned (.tuple #[v, x])) w) : bodyPost P fn R .ret a w :=
  ⟨ha.defers, _, by rw [results_tmp2 hr], by simpa [ha.get _ _ hv, ha.get _ _ hx] using h⟩
theorem post_ret0 {fn : Func} {R : Ending → World → Prop} {a : Act} {e : Env} {w : World} (ha : Frm n a e) (hr : fn.results = #[]) (h : R (.returned (.tuple #[])) w) : bodyPost P fn R .ret a w :=
  ⟨ha.defers, _, by rw [results_none hr], h⟩
theorem post_end0 {fn : Func} {R : Ending → World → Prop} {a : Act} {e : Env} {w : World} (ha : Frm n a e) (hr : fn.results = #[]) (h : R (.returned (.tuple #[])) w) : bodyPost P fn R .normal a w :=
  ⟨ha.defers, _, by rw [results_none hr], h⟩

/-! ### Regions -/
theorem CW.region {id : Nat} {e : Env} {w : World} (l : List (Nat × Kd3)) (hl : l.map (·.1) = List.range ops.size) (h : EW P true S n ops Q l e w) : CW P n (.region id ops false) Q e w :=
  fun a ha => region_plain l hl (h a ha)
theorem CW.regionD {id : Nat} {e : Env} {w : World} (S : Nat → Prop) (l : List (Nat × Kd3)) (hm : P.follows .mixedOrders = true) (hl : eagerOK ops l = true) (h : EW P false S n ops Q l e w.drew) : CW P n (.region id ops true) Q e w :=
  fun a ha => region_eager S l hm hl (h a ha)
theorem CW.regionD2 {id : Nat} {e : Env} {w : World} (S : Nat → Prop) (l l1 l2 : List (Nat × Kd3)) (hm : P.follows .mixedOrders = true) (hl : eagerOK2 ops l l1 l2 = true) (h : EW P false S n ops (QF P S ops Q l1 l2) l e w.drew) : CW P n (.region id ops true) Q e w :=
  fun a ha => region_eager2 S l l1 l2 hm hl (h a ha)
theorem EW.fork {l1 l2 : List (Nat × Kd3)} {e : Env} {w : World} (h1 : EW P false S n ops Q l1 e w) (h2 : EW P false S n ops Q l2 e w) : EW P m S n ops (QF P S ops Q l1 l2) [] e w := fun a ha => ⟨h1 a ha, h2 a ha⟩
theorem EW.nil {e : Env} {w : World} (h : ∀ a, Frm n a e → Q .normal a w) : EW P m S n ops Q [] e w := h
theorem EW.nil_seq {y : Code} {Q : Exit → Act → World → Prop} {e : Env} {w : World} (h : CW P n y Q e w) : EW P m S n ops (Exit.then (fun a w => y.wp P Q a w) Q) [] e w := h
theorem CW.skip_seq {y : Code} {Q : Exit → Act → World → Prop} {e : Env} {w : World} (h : CW P n y Q e w) : CW P n .skip (Exit.then (fun a w => y.wp P Q a w) Q) e w := CW.skip (K := fun _ _ => True) h

theorem EW.q {i : Nat} {o : Oper} {d : Nat} {v : Value} {l : List (Nat × Kd3)} {e : Env} {w : World} (ho : ops[i]? = some o) (hg : wantedE ops e o = some true) (hd : o.dst = some d) (hdn : Nat.blt d n = true)
    (hx : ∀ a, Frm n a e → ∀ w', Cl m S w w' → Qt P o a v w') (h : EW P m S n ops Q l ((d, v) :: e) w) : EW P m S n ops Q ((i, .q) :: l) e w := fun a ha => by
  refine ⟨o, ho, ?_⟩
  rw [if_pos (ha.wanted hg)]
  exact ⟨v, hx a ha, by rw [hd]; exact h _ (ha.put hdn v)⟩
theorem EW.off {i : Nat} {kd : Kd3} {o : Oper} {d : Nat} {l : List (Nat × Kd3)} {e : Env} {w : World} (ho : ops[i]? = some o) (hg : wantedE ops e o = some false) (hd : o.dst = some d) (hdn : Nat.blt d n = true)
    (h : EW P m S n ops Q l ((d, undef) :: e) w) : EW P m S n ops Q ((i, kd) :: l) e w := fun a ha => by
  refine ⟨o, ho, ?_⟩
  rw [if_neg (by rw [ha.wanted hg]; simp), hd]
  exact h _ (ha.put hdn undef)
/-- A world-changing operation. -/
theorem EW.l {i : Nat} {o : Oper} {l : List (Nat × Kd3)} {e : Env} {w : World} (ho : ops[i]? = some o) (hg : wantedE ops e o = some true)
    (hx : ∀ a, Frm n a e → o.wp P a w (fun a' w' => Dl m S w w' ∧ WQ P m S ops Q l a' w') (QX m Q)) : EW P m S n ops Q ((i, .l) :: l) e w := fun a ha => by
  refine ⟨o, ho, ?_⟩
  rw [if_pos (ha.wanted hg)]
  exact hx a ha

theorem dl_of {S : Nat → Prop} {w w' : World} (h : Keep noS w w') : Dl m S w w' := by
  unfold Dl; split
  · trivial
  · exact h.any
theorem dl_of' {S : Nat → Prop} {w w' : World} (h : m = true ∨ Keep S w w') : Dl m S w w' := by
  unfold Dl; split
  · trivial
  · rename_i hm; exact h.resolve_left hm

/-- One that stands behind all others. -/
theorem EW.bs {i : Nat} {o : Oper} {l : List (Nat × Kd3)} {e : Env} {w w1 : World} (ho : ops[i]? = some o) (hg : wantedE ops e o = some true) (hd : o.dst = none)
    (hx : ∀ a, Frm n a e → (execOp a.eval o).run P w = .ok .skip w1) (h : EW P m S n ops Q l e w1) : EW P m S n ops Q ((i, .b) :: l) e w := fun a ha => by
  refine ⟨o, ho, ?_⟩
  rw [if_pos (ha.wanted hg)]
  show o.wp P a w _ _
  unfold Oper.wp
  rw [hx a ha]
  show WQ P m S ops Q l _ w1
  rw [hd]; exact h _ ha
/-- A world-changing operation that yields one value in one world. -/
theorem EW.lv {i : Nat} {o : Oper} {d : Nat} {v : Value} {l : List (Nat × Kd3)} {e : Env} {w w1 : World} (ho : ops[i]? = some o) (hg : wantedE ops e o = some true) (hd : o.dst = some d) (hdn : Nat.blt d n = true)
    (hx : ∀ a, Frm n a e → (execOp a.eval o).run P w = .ok (.value v) w1) (hk : Dl m S w w1) (h : EW P m S n ops Q l ((d, v) :: e) w1) : EW P m S n ops Q ((i, .l) :: l) e w :=
  EW.l ho hg fun a ha => by
    unfold Oper.wp
    rw [hx a ha]
    exact ⟨hk, by rw [hd]; exact h _ (ha.put hdn v)⟩
theorem EW.ls {i : Nat} {o : Oper} {l : List (Nat × Kd3)} {e : Env} {w w1 : World} (ho : ops[i]? = some o) (hg : wantedE ops e o = some true) (hd : o.dst = none)
    (hx : ∀ a, Frm n a e → (execOp a.eval o).run P w = .ok .skip w1) (hk : Dl m S w w1) (h : EW P m S n ops Q l e w1) : EW P m S n ops Q ((i, .l) :: l) e w :=
  EW.l ho hg fun a ha => by
    unfold Oper.wp
    rw [hx a ha]
    exact ⟨hk, by rw [hd]; exact h _ ha⟩
def evs (e : Env) : List Operand → Option (List Value)
  | [] => some []
  | x :: r => match ev e x, evs e r with
    | some v, some vs => some (v :: vs)
    | _, _ => none
theorem Frm.evals {a : Act} {e : Env} (h : Frm n a e) : ∀ {xs : List Operand} {vs : List Value}, evs e xs = some vs → xs.map a.eval = vs
  | [], vs, hv => by simpa [evs] using hv
  | x :: r, vs, hv => by
    unfold evs at hv
    split at hv
    · rename_i v vs' h1 h2
      injection hv with hv; subst hv
      simp [h.eval h1, h.evals h2]
    · cases hv

/-- A call of a named function, by its contract. -/
theorem EW.call {i : Nat} {o : Oper} {f : FuncId} {fn : Func} {args : List Operand} {at_ : Array TypeId} {vs : List Value} {l : List (Nat × Kd3)} {e : Env} {w : World} {R : Ending → World → Prop}
    (ho : ops[i]? = some o) (hg : wantedE ops e o = some true) (hop : o.op = .call { callee := .value (.func f), args := args.toArray, argTypes := at_ })
    (hf : P.funcs[f]? = some fn) (hfb : fn.body.isNone = false) (hfn : (fn.name == "runtime.NumGoroutine") = false)
    (ha : evs e args = some vs) (hc : Calls P f vs.toArray w R)
    (h : ∀ en w', R en w' → ∃ v, en = .returned v ∧ Dl m S w w' ∧ ((∃ d, o.dst = some d ∧ Nat.blt d n = true ∧ EW P m S n ops Q l ((d, v) :: e) w') ∨ (o.dst = none ∧ EW P m S n ops Q l e w'))) :
    EW P m S n ops Q ((i, .l) :: l) e w :=
  EW.l ho hg fun a hfr => by
    have hrun : (execOp a.eval o).run P w = .ok (.enter f vs.toArray) w := by
      unfold execOp
      rw [hop]
      simp only [resolve, Act.eval, Deferred.ofValue, Sem.run_bind, Sem.run_pure, Result.andThen_ok, invoke, callFunc, run_program, hf]
      simp only [hfn, hfb, Bool.false_eq_true, if_false]
      simp [← hfr.evals ha]
    unfold Oper.wp
    rw [hrun]
    refine Calls.mono hc fun en w' hr => ?_
    obtain ⟨v, rfl, hd, hn⟩ := h en w' hr
    refine ⟨hd, ?_⟩
    rcases hn with ⟨d, h1, h2, h3⟩ | ⟨h1, h3⟩
    · rw [h1]; exact h3 _ (hfr.put h2 v)
    · rw [h1]; exact h3 _ hfr
end
end Go.Cw
/-
  RULES FOR OPERATIONS: pure ones, loads and stores, new memory, append; memory as a list of resources.
-/
set_option linter.unusedVariables false
set_option linter.unusedSectionVars false
namespace Go.Cw

/-! ### What is known of a type -/
class TyI (P : Program) (t : TypeId) (agg : outParam Bool) (size : outParam Nat) : Prop where
  agg : ∀ w, (isAgg t).run P w = .ok agg w
  size : ∀ w, (sizeOf t).run P w = .ok size w
def isAggD : TypeDesc → Bool | .struct _ => true | .array _ _ => true | _ => false
theorem TyI.of {P : Program} {t : TypeId} {agg : Bool} {size : Nat} (h : (P.underlying t).map isAggD = some agg) (h2 : (P.info? t).map (·.size) = some size) : TyI P t agg size := {
  agg := fun w => by
    obtain ⟨d, hd, rfl⟩ := Option.map_eq_some_iff.1 h
    simp only [isAgg, Sem.run_bind, run_underlying hd, Result.andThen_ok]
    cases d <;> rfl
  size := fun w => by
    obtain ⟨i, hi, rfl⟩ := Option.map_eq_some_iff.1 h2
    simp [sizeOf, typeInfo, hi] }
class SlT (P : Program) (t : TypeId) (elem : outParam TypeId) : Prop where
  u : P.underlying t = some (.slice elem)
class IntT (P : Program) (t : TypeId) (k : outParam IntKind) : Prop where
  u : P.underlying t = some (.int k)
class StrT (P : Program) (t : TypeId) : Prop where
  u : P.underlying t = some .string
class BoolT (P : Program) (t : TypeId) : Prop where
  u : P.underlying t = some .bool
def isPtrD : TypeDesc → Bool | .pointer _ => true | _ => false
class PtrT (P : Program) (t : TypeId) : Prop where
  p : (P.underlying t).map isPtrD = some true
theorem PtrT.u {P : Program} {t : TypeId} (h : PtrT P t) : ∃ e, P.underlying t = some (.pointer e) := by
  obtain ⟨d, hd, hp⟩ := Option.map_eq_some_iff.1 h.p
  cases d <;> first | exact ⟨_, hd⟩ | cases hp
/-- Field f of struct type t lies at cell off. -/
class Fld (P : Program) (t : TypeId) (f : Nat) (off : outParam Nat) : Prop where
  at_ : ∀ a w, (Instr.fieldAt t (.pointer (some a)) f).run P w = .ok (.pointer (some (a.add off))) w
def fldOff (P : Program) (t : TypeId) (f : Nat) : Option Nat :=
  match P.underlying t with
  | some (.struct fs) => match fs[f]? with
    | some fd => match P.info? fd.type with
      | some i => if i.size == 0 then none else some fd.offset
      | none => none
    | none => none
  | _ => none
theorem Fld.of {P : Program} {t : TypeId} {f off : Nat} (h : fldOff P t f = some off) : Fld P t f off := {
  at_ := fun a w => by
    unfold fldOff at h
    split at h
    · rename_i fs h1
      split at h
      · rename_i fd h2
        split at h
        · rename_i i h4
          split at h
          · cases h
          · rename_i h5
            injection h with h3
            have h5' : ¬ i.size = 0 := by simpa using h5
            simp [Instr.fieldAt, run_underlying h1, h2, Instr.sureAddr, fieldPlace, sizeOf, typeInfo, h4, h5', h3]
        · cases h
      · cases h
    · cases h }

/-! ### Resources -/
structure Res where
  fp : Nat → Prop
  holds : World → Prop
  loc : ∀ w w', holds w → (∀ b, fp b → w'.heap[b]? = w.heap[b]?) → holds w'
  old : ∀ w, holds w → ∀ b, fp b → b < w.heap.size

def pt (b : Nat) (o : Obj) : Res := {
  fp := fun k => k = b
  holds := fun w => w.heap[b]? = some o
  loc := fun w w' h hb => (hb b rfl).trans h
  old := fun w h k hk => by subst hk; exact (Array.getElem?_eq_some_iff.1 h).1 }

structure St (w0 : World) (S0 : Nat → Prop) (w : World) (H : List Res) : Prop where
  keep : Keep S0 w0 w
  holds : ∀ R ∈ H, R.holds w
  own : ∀ R ∈ H, ∀ b, R.fp b → w0.heap.size ≤ b ∨ S0 b
  disj : H.Pairwise (fun R R' => ∀ b, R.fp b → ¬ R'.fp b)

section
variable {w0 w w' : World} {S0 : Nat → Prop} {H : List Res}
theorem St.init (w0 : World) (S0 : Nat → Prop) : St w0 S0 w0 [] := ⟨Keep.refl _ _, fun _ h => by simp at h, fun _ h => by simp at h, List.Pairwise.nil⟩
theorem St.init1 (w0 : World) (R : Res) (h : R.holds w0) : St w0 R.fp w0 [R] :=
  ⟨Keep.refl _ _, fun _ h' => by simp at h'; subst h'; exact h, fun _ h' b hb => by simp at h'; subst h'; exact .inr hb, by simp⟩
theorem St.stay (h : St w0 S0 w H) (hk : Keep noS w w') : St w0 S0 w' H := {
  keep := h.keep.trans hk.any
  holds := fun R hR => R.loc w w' (h.holds R hR) fun b hb => hk.block b (R.old w (h.holds R hR) b hb) (fun x => x)
  own := h.own
  disj := h.disj }
theorem St.drew (h : St w0 S0 w H) : St w0 S0 w.drew H := h.stay (Keep.drew w)
theorem St.add (h : St w0 S0 w H) (hk : Keep noS w w') {R : Res} (hR : R.holds w') (hf : ∀ b, R.fp b → w.heap.size ≤ b) : St w0 S0 w' (R :: H) := {
  keep := h.keep.trans hk.any
  holds := fun R' hR' => by
    rcases List.mem_cons.1 hR' with rfl | hm
    · exact hR
    · exact (h.stay hk).holds R' hm
  own := fun R' hR' b hb => by
    rcases List.mem_cons.1 hR' with rfl | hm
    · exact .inl (Nat.le_trans h.keep.size (hf b hb))
    · exact h.own R' hm b hb
  disj := List.pairwise_cons.2 ⟨fun R' hm b hb hb' => by
      have h1 := R'.old w (h.holds R' hm) b hb'
      have h2 := hf b hb
      omega, h.disj⟩ }
theorem St.alloc (h : St w0 S0 w H) (o : Obj) : St w0 S0 (w.alloc o) (pt w.heap.size o :: H) :=
  h.add (Keep.alloc w o) (heap_alloc_new w o) (fun b hb => by simp [pt] at hb; omega)
/-- What lies beside is kept when resource i is turned into R' (old memory of its own, or new). -/
theorem St.turn (h : St w0 S0 w H) (i : Nat) {R R' : Res} (hi : H[i]? = some R) (hk : Keep R.fp w w') (hR : R'.holds w') (hf : ∀ b, R'.fp b → R.fp b ∨ w.heap.size ≤ b) : St w0 S0 w' (H.set i R') := by
  have hRm : R ∈ H := List.mem_of_getElem? hi
  have hother : ∀ j R₁, j ≠ i → H[j]? = some R₁ → ∀ b, R₁.fp b → ¬ R.fp b := by
    intro j R₁ hji hj b hb hb'
    have hil := (List.getElem?_eq_some_iff.1 hi)
    have hjl := (List.getElem?_eq_some_iff.1 hj)
    obtain ⟨hil, hie⟩ := hil
    obtain ⟨hjl, hje⟩ := hjl
    have hp := List.pairwise_iff_getElem.1 h.disj
    rcases Nat.lt_or_gt_of_ne hji with hlt | hlt
    · exact hp j i hjl hil hlt b (by rw [hje]; exact hb) (by rw [hie]; exact hb')
    · exact hp i j hil hjl hlt b (by rw [hie]; exact hb') (by rw [hje]; exact hb)
  have hmem : ∀ R₁, R₁ ∈ H.set i R' → R₁ = R' ∨ ∃ j, j ≠ i ∧ H[j]? = some R₁ := by
    intro R₁ hm
    obtain ⟨j, hj⟩ := List.mem_iff_getElem?.1 hm
    by_cases hji : j = i
    · subst hji
      have hl : j < H.length := (List.getElem?_eq_some_iff.1 hi).1
      rw [List.getElem?_set_self hl] at hj
      exact .inl (by injection hj with hj; exact hj.symm)
    · rw [List.getElem?_set_ne (Ne.symm hji)] at hj
      exact .inr ⟨j, hji, hj⟩
  have hsz : ∀ R₁, R₁ ∈ H → ∀ b, R₁.fp b → b < w.heap.size := fun R₁ hm => R₁.old w (h.holds R₁ hm)
  have hdis : ∀ R₁ j, j ≠ i → H[j]? = some R₁ → ∀ b, R₁.fp b → ¬ R'.fp b := fun R₁ j hji hj b hb hb' => by
    rcases hf b hb' with hx | hx
    · exact hother j R₁ hji hj b hb hx
    · have := hsz R₁ (List.mem_of_getElem? hj) b hb
      omega
  refine ⟨⟨hk.os.trans h.keep.os, hk.tape.trans h.keep.tape, hk.output.trans h.keep.output, Nat.le_trans h.keep.drawn hk.drawn, Nat.le_trans h.keep.size hk.size, fun k hk' hs => ?_⟩, fun R₁ h1 => ?_, fun R₁ h1 b hb => ?_, ?_⟩
  · rw [hk.block k (Nat.lt_of_lt_of_le hk' h.keep.size) (fun hfp => by
      rcases h.own R hRm k hfp with h1 | h1
      · omega
      · exact hs h1)]
    exact h.keep.block k hk' hs
  · rcases hmem R₁ h1 with rfl | ⟨j, hji, hj⟩
    · exact hR
    · have hm := List.mem_of_getElem? hj
      exact R₁.loc w w' (h.holds R₁ hm) fun b hb => hk.block b (hsz R₁ hm b hb) (hother j R₁ hji hj b hb)
  · rcases hmem R₁ h1 with rfl | ⟨j, hji, hj⟩
    · rcases hf b hb with hx | hx
      · exact h.own R hRm b hx
      · exact .inl (Nat.le_trans h.keep.size hx)
    · exact h.own R₁ (List.mem_of_getElem? hj) b hb
  · rw [List.pairwise_iff_getElem]
    intro j k hj hk' hlt b hb hb'
    simp only [List.length_set] at hj hk'
    rw [List.getElem_set] at hb hb'
    have hp := List.pairwise_iff_getElem.1 h.disj
    by_cases hji : i = j
    · subst hji
      rw [if_pos rfl] at hb
      rw [if_neg (by omega)] at hb'
      exact hdis _ k (by omega) (List.getElem?_eq_getElem hk') b hb' hb
    · rw [if_neg hji] at hb
      by_cases hki : i = k
      · subst hki
        rw [if_pos rfl] at hb'
        exact hdis _ j (by omega) (List.getElem?_eq_getElem hj) b hb hb'
      · rw [if_neg hki] at hb'
        exact hp j k hj hk' hlt b hb hb'

/-- Resources may be forgotten, and told in another order. -/
theorem St.pick (h : St w0 S0 w H) (l : List Nat) (hl : l.Nodup) : St w0 S0 w (l.filterMap (fun i => H[i]?)) := {
  keep := h.keep
  holds := fun R hR => by
    obtain ⟨i, _, hi⟩ := List.mem_filterMap.1 hR
    exact h.holds R (List.mem_of_getElem? hi)
  own := fun R hR => by
    obtain ⟨i, _, hi⟩ := List.mem_filterMap.1 hR
    exact h.own R (List.mem_of_getElem? hi)
  disj := by
    rw [List.pairwise_filterMap]
    refine List.Pairwise.imp ?_ hl
    intro i j hne R hR R' hR' b hb hb'
    obtain ⟨hil, hie⟩ := List.getElem?_eq_some_iff.1 hR
    obtain ⟨hjl, hje⟩ := List.getElem?_eq_some_iff.1 hR'
    have hp := List.pairwise_iff_getElem.1 h.disj
    rcases Nat.lt_or_gt_of_ne hne with hlt | hlt
    · exact hp i j hil hjl hlt b (by rw [hie]; exact hb) (by rw [hje]; exact hb')
    · exact hp j i hjl hil hlt b (by rw [hje]; exact hb') (by rw [hie]; exact hb) }
theorem St.tail {R : Res} (h : St w0 S0 w (R :: H)) : St w0 S0 w H :=
  ⟨h.keep, fun R hR => h.holds R (List.mem_cons_of_mem _ hR), fun R hR => h.own R (List.mem_cons_of_mem _ hR), (List.pairwise_cons.1 h.disj).2⟩
theorem St.res (h : St w0 S0 w H) (i : Nat) {R : Res} (hi : H[i]? = some R) : R.holds w := h.holds R (List.mem_of_getElem? hi)
/-- What was there when the call began. -/
theorem St.cell (h : St w0 noS w H) {a : Addr} {v : Value} (hc : w0.cell? a = some v) : w.cell? a = some v := h.keep.cell hc (fun x => x)
end

/-! ### Loads -/
def LD (P : Program) (w : World) (t : TypeId) (p : Addr) (v : Value) : Prop := (loadVar t p).run P w = .ok v w
section
variable {P : Program}
theorem LD.one {w : World} {t : TypeId} {p : Addr} {v : Value} {sz : Nat} [ht : TyI P t false sz] (hc : w.cell? p = some v) : LD P w t p v := by
  unfold LD loadVar
  simp [ht.agg, hc]
theorem add_add (a : Addr) (i j : Nat) : (a.add i).add j = a.add (i + j) := by
  unfold Addr.add
  by_cases hi : i = 0
  · subst hi; simp
  · by_cases hj : j = 0
    · subst hj; simp [hi]
    · simp [hi, hj, Nat.add_assoc]
theorem LD.many {w : World} {t : TypeId} {p : Addr} {cs : List Value} {sz : Nat} [ht : TyI P t true sz] (hs : cs.length = sz) (hc : ∀ j v, cs[j]? = some v → w.cell? (p.add j) = some v) : LD P w t p (.agg cs.toArray) := by
  unfold LD loadVar
  have hl := run_loadCells_list (P := P) w p cs hc
  rw [hs] at hl
  simp [ht.agg, ht.size, hl]
theorem add_at (b o j : Nat) : (⟨b, o, none⟩ : Addr).add j = ⟨b, o + j, none⟩ := by unfold Addr.add; split <;> simp_all
/-- Out of a block that is known. -/
theorem LD.pt1 {w : World} {t : TypeId} {b o : Nat} {cs : Array Value} {et : TypeId} {fr : Nat × Nat} {v : Value} {sz : Nat} (hb : w.heap[b]? = some (.cells cs et fr)) (hv : cs[o]? = some v) [ht : TyI P t false sz] : LD P w t ⟨b, o, none⟩ v :=
  LD.one (by rw [cell_of_row w b o cs et fr hb]; exact hv)
theorem LD.ptA {w : World} {t : TypeId} {b o : Nat} {cs : List Value} {et : TypeId} {fr : Nat × Nat} {vs : List Value} {sz : Nat} (hb : w.heap[b]? = some (.cells cs.toArray et fr)) [ht : TyI P t true sz] (hv : (cs.drop o).take sz = vs) (hl : Nat.ble (o + sz) cs.length = true) : LD P w t ⟨b, o, none⟩ (.agg vs.toArray) := by
  have hl' : o + sz ≤ cs.length := by simpa [Nat.ble_eq] using hl
  refine LD.many (by subst hv; simp; omega) fun j v hj => ?_
  rw [add_at, cell_of_row w b (o + j) cs.toArray et fr hb]
  subst hv
  rw [List.getElem?_take] at hj
  split at hj
  · rw [List.getElem?_drop] at hj; simpa using hj
  · cases hj
end

/-! ### Quiet operations -/
section
variable {P : Program} {m : Bool} {S : Nat → Prop} {n : Nat} {ops : Array Oper} {Q : Exit → Act → World → Prop}
variable {i : Nat} {o : Oper} {d : Nat} {v : Value} {l : List (Nat × Kd3)} {e : Env} {w : World}

theorem EW.move {x : Operand} (ho : ops[i]? = some o) (hop : o.op = .move x) (hg : wantedE ops e o = some true) (hd : o.dst = some d) (hdn : Nat.blt d n = true) (hx : ev e x = some v)
    (h : EW P m S n ops Q l ((d, v) :: e) w) : EW P m S n ops Q ((i, .q) :: l) e w :=
  EW.q ho hg hd hdn (fun a ha w' _ => by simp [Qt, execOp, hop, ha.eval hx]) h
theorem EW.assign {x : Operand} (ho : ops[i]? = some o) (hop : o.op = .assign x) (hg : wantedE ops e o = some true) (hd : o.dst = some d) (hdn : Nat.blt d n = true) (hx : ev e x = some v)
    (h : EW P m S n ops Q l ((d, v) :: e) w) : EW P m S n ops Q ((i, .q) :: l) e w :=
  EW.q ho hg hd hdn (fun a ha w' _ => by simp [Qt, execOp, hop, ha.eval hx]) h
theorem EW.nilCheck {x : Operand} {p : Addr} (ho : ops[i]? = some o) (hop : o.op = .nilCheck x) (hg : wantedE ops e o = some true) (hd : o.dst = some d) (hdn : Nat.blt d n = true) (hx : ev e x = some (.pointer (some p)))
    (h : EW P m S n ops Q l ((d, .pointer (some p)) :: e) w) : EW P m S n ops Q ((i, .q) :: l) e w :=
  EW.q ho hg hd hdn (fun a ha w' _ => by simp [Qt, execOp, hop, ha.eval hx]) h
theorem EW.fieldAddr {x : Operand} {t : TypeId} {f off b o0 : Nat} (ho : ops[i]? = some o) (hop : o.op = .fieldAddr t x f) (hg : wantedE ops e o = some true) (hd : o.dst = some d) (hdn : Nat.blt d n = true) (hx : ev e x = some (.pointer (some ⟨b, o0, none⟩))) [hf : Fld P t f off]
    (h : EW P m S n ops Q l ((d, .pointer (some ⟨b, o0 + off, none⟩)) :: e) w) : EW P m S n ops Q ((i, .q) :: l) e w :=
  EW.q ho hg hd hdn (fun a ha w' _ => by simp [Qt, execOp, hop, ha.eval hx, hf.at_, add_at]) h
theorem EW.load {x : Operand} {t : TypeId} {p : Addr} (ho : ops[i]? = some o) (hop : o.op = .load t x) (hg : wantedE ops e o = some true) (hd : o.dst = some d) (hdn : Nat.blt d n = true) (hx : ev e x = some (.pointer (some p)))
    (hl : ∀ w', Cl m S w w' → LD P w' t p v)
    (h : EW P m S n ops Q l ((d, v) :: e) w) : EW P m S n ops Q ((i, .q) :: l) e w :=
  EW.q ho hg hd hdn (fun a ha w' hc => by have := hl w' hc; unfold LD at this; simp [Qt, execOp, hop, ha.eval hx, Instr.loadAt, Instr.sureAddr, this]) h
theorem EW.extract {x : Operand} {k : Nat} {vs : Array Value} (ho : ops[i]? = some o) (hop : o.op = .extract x k) (hg : wantedE ops e o = some true) (hd : o.dst = some d) (hdn : Nat.blt d n = true) (hx : ev e x = some (.tuple vs)) (hv : vs[k]? = some v)
    (h : EW P m S n ops Q l ((d, v) :: e) w) : EW P m S n ops Q ((i, .q) :: l) e w :=
  EW.q ho hg hd hdn (fun a ha w' _ => by simp [Qt, execOp, hop, ha.eval hx, Instr.extract, hv]) h
theorem EW.len {x : Operand} {t : TypeId} {A : Option Addr} {k c : Nat} {et : TypeId} [ht : SlT P t et] (ho : ops[i]? = some o) (hop : o.op = .call { callee := .builtin .len, args := #[x], argTypes := #[t] }) (hg : wantedE ops e o = some true) (hd : o.dst = some d) (hdn : Nat.blt d n = true) (hx : ev e x = some (.slice A k c))
    (h : EW P m S n ops Q l ((d, .int .i64 (k : Int)) :: e) w) : EW P m S n ops Q ((i, .q) :: l) e w :=
  EW.q ho hg hd hdn (fun a ha w' _ => by simp [Qt, execOp, hop, ha.eval hx, resolve, invoke, builtin, Builtin.len_, run_underlying ht.u, goInt]) h
theorem EW.lenS {x : Operand} {t : TypeId} {s : ByteArray} [ht : StrT P t] (ho : ops[i]? = some o) (hop : o.op = .call { callee := .builtin .len, args := #[x], argTypes := #[t] }) (hg : wantedE ops e o = some true) (hd : o.dst = some d) (hdn : Nat.blt d n = true) (hx : ev e x = some (.string s))
    (h : EW P m S n ops Q l ((d, .int .i64 (s.size : Int)) :: e) w) : EW P m S n ops Q ((i, .q) :: l) e w :=
  EW.q ho hg hd hdn (fun a ha w' _ => by simp [Qt, execOp, hop, ha.eval hx, resolve, invoke, builtin, Builtin.len_, run_underlying ht.u, goInt]) h

/-- An operator: its value by a fact on its run. -/
def BV (P : Program) (op : BinOp) (t : TypeId) (x y v : Value) : Prop := ∀ w ox oy, (do eqGuard op t ox oy x y; binOp op t x y : Sem Value).run P w = .ok v w
theorem EW.bin {op : BinOp} {t yt : TypeId} {x y : Operand} {vx vy : Value} (ho : ops[i]? = some o) (hop : o.op = .binOp op t x y yt) (hg : wantedE ops e o = some true) (hd : o.dst = some d) (hdn : Nat.blt d n = true) (hx : ev e x = some vx) (hy : ev e y = some vy) (hv : BV P op t vx vy v)
    (h : EW P m S n ops Q l ((d, v) :: e) w) : EW P m S n ops Q ((i, .q) :: l) e w :=
  EW.q ho hg hd hdn (fun a ha w' _ => by
    have := hv w' x y
    simp only [Qt, execOp, hop, ha.eval hx, ha.eval hy]
    rw [Sem.run_bind, this]; rfl) h
theorem eqGuard_int {P : Program} {op : BinOp} {t : TypeId} {x y : Operand} {k k' : IntKind} {a b : Int} {w : World} : (eqGuard op t x y (.int k a) (.int k' b)).run P w = .ok () w := by
  unfold eqGuard; split <;> rfl
theorem BV.add {t : TypeId} {k : IntKind} {a b c : Int} (hc : k.wrap (a + b) = c) : BV P .add t (.int k a) (.int k b) (.int k c) := fun w ox oy => by subst hc; simp [eqGuard_int, binOp, Op.intArith]
theorem BV.sub {t : TypeId} {k : IntKind} {a b c : Int} (hc : k.wrap (a - b) = c) : BV P .sub t (.int k a) (.int k b) (.int k c) := fun w ox oy => by subst hc; simp [eqGuard_int, binOp, Op.intArith]
theorem BV.mul {t : TypeId} {k : IntKind} {a b c : Int} (hc : k.wrap (a * b) = c) : BV P .mul t (.int k a) (.int k b) (.int k c) := fun w ox oy => by subst hc; simp [eqGuard_int, binOp, Op.intArith]
theorem BV.lss {t : TypeId} {k : IntKind} {a b : Int} : BV P .lss t (.int k a) (.int k b) (.bool (decide (a < b))) := fun w ox oy => by simp [eqGuard_int, binOp, Op.intCmp]
theorem BV.leq {t : TypeId} {k : IntKind} {a b : Int} : BV P .leq t (.int k a) (.int k b) (.bool (decide (a ≤ b))) := fun w ox oy => by simp [eqGuard_int, binOp, Op.intCmp]
theorem BV.gtr {t : TypeId} {k : IntKind} {a b : Int} : BV P .gtr t (.int k a) (.int k b) (.bool (decide (b < a))) := fun w ox oy => by simp [eqGuard_int, binOp, Op.intCmp]
theorem BV.geq {t : TypeId} {k : IntKind} {a b : Int} : BV P .geq t (.int k a) (.int k b) (.bool (decide (b ≤ a))) := fun w ox oy => by simp [eqGuard_int, binOp, Op.intCmp]
theorem BV.eqi {t : TypeId} {k : IntKind} {a b : Int} : BV P .eql t (.int k a) (.int k b) (.bool (decide (a = b))) := fun w ox oy => by
  simp [eqGuard_int, binOp, Op.intCmp]
  by_cases h : a = b <;> simp [h]
theorem BV.nei {t : TypeId} {k : IntKind} {a b : Int} : BV P .neq t (.int k a) (.int k b) (.bool (decide (a ≠ b))) := fun w ox oy => by
  simp [eqGuard_int, binOp, Op.intCmp]
  by_cases h : a = b <;> simp [h]
theorem wrap_i64 {a : Int} (h1 : -9223372036854775808 ≤ a) (h2 : a ≤ 9223372036854775807) : IntKind.i64.wrap a = a := by
  have hb : IntKind.i64.bits = 64 := rfl
  have hs : IntKind.i64.signed = true := rfl
  unfold IntKind.wrap
  simp only [hb, hs, Bool.true_and]
  split <;> rename_i h <;> simp at h <;> omega
theorem eqGuard_one {P : Program} {op : BinOp} {t : TypeId} {x y : Operand} {a b : Value} {w : World} (h : ∀ cs, a ≠ .agg cs) (h' : a ≠ .nilIface) : (eqGuard op t x y a b).run P w = .ok () w := by
  unfold eqGuard
  cases a <;> first | exact absurd rfl (h _) | exact absurd rfl h' | (cases op <;> rfl)
theorem str_eq (a b : ByteArray) : (a.toList == b.toList) = decide (a = b) := by
  rw [ByteArray.toList_eq, ByteArray.toList_eq]
  obtain ⟨⟨x⟩⟩ := a
  obtain ⟨⟨y⟩⟩ := b
  show (x == y) = _
  by_cases h : x = y
  · subst h; simp
  · have hn : ¬ (ByteArray.mk ⟨x⟩ = ByteArray.mk ⟨y⟩) := by
      intro hh
      injection hh with hh
      injection hh with hh
      exact h hh
    rw [decide_eq_false hn]
    simpa using h
theorem BV.eqs {t : TypeId} {a b : ByteArray} : BV P .eql t (.string a) (.string b) (.bool (decide (a = b))) := fun w ox oy => by
  rw [Sem.run_bind, eqGuard_one (by intro cs; simp) (by simp), ← str_eq]; rfl
theorem BV.nes {t : TypeId} {a b : ByteArray} : BV P .neq t (.string a) (.string b) (.bool (!decide (a = b))) := fun w ox oy => by
  rw [Sem.run_bind, eqGuard_one (by intro cs; simp) (by simp), ← str_eq]; rfl
theorem BV.lts {t : TypeId} {a b : ByteArray} : BV P .lss t (.string a) (.string b) (.bool (Op.bytesLess a.toList b.toList)) := fun w ox oy => by
  rw [Sem.run_bind, eqGuard_one (by intro cs; simp) (by simp)]; rfl
theorem BV.gts {t : TypeId} {a b : ByteArray} : BV P .gtr t (.string a) (.string b) (.bool (!(Op.bytesLess a.toList b.toList || decide (a = b)))) := fun w ox oy => by
  rw [Sem.run_bind, eqGuard_one (by intro cs; simp) (by simp), ← str_eq]; rfl
theorem run_equal_bool {t : TypeId} [ht : BoolT P t] {a b : Bool} {w : World} : (Op.equal t (.bool a) (.bool b)).run P w = .ok (a == b) w :=
  run_equalIn_bool' w 9999 t a b ht.u
theorem BV.eqb {t : TypeId} [ht : BoolT P t] {a b : Bool} : BV P .eql t (.bool a) (.bool b) (.bool (a == b)) := fun w ox oy => by
  rw [Sem.run_bind, eqGuard_one (by intro cs; simp) (by simp)]
  rw [show binOp .eql t (.bool a) (.bool b) = (do pure (.bool (← Op.equal t (.bool a) (.bool b)))) from rfl]
  simp only [Result.andThen_ok, Sem.run_bind, run_equal_bool, Sem.run_pure]
theorem BV.neb {t : TypeId} [ht : BoolT P t] {a b : Bool} : BV P .neq t (.bool a) (.bool b) (.bool (!(a == b))) := fun w ox oy => by
  rw [Sem.run_bind, eqGuard_one (by intro cs; simp) (by simp)]
  rw [show binOp .neq t (.bool a) (.bool b) = (do pure (.bool (!(← Op.equal t (.bool a) (.bool b))))) from rfl]
  simp only [Result.andThen_ok, Sem.run_bind, run_equal_bool, Sem.run_pure]
theorem run_equalIn_ptr_nil (dd : Nat) {t : TypeId} [ht : PtrT P t] {a : Addr} {w : World} : (Op.equalIn (dd + 1) t (.pointer (some a)) (.pointer none)).run P w = .ok false w := by
  obtain ⟨e, he⟩ := PtrT.u ht
  simp [Op.equalIn, run_underlying he]
theorem BV.ptr_eqnil {t : TypeId} [ht : PtrT P t] {a : Addr} : BV P .eql t (.pointer (some a)) (.pointer none) (.bool false) := fun w ox oy => by
  rw [Sem.run_bind, eqGuard_one (by intro cs; simp) (by simp)]
  rw [show binOp .eql t (.pointer (some a)) (.pointer none) = (do pure (.bool (← Op.equalIn (9999 + 1) t (.pointer (some a)) (.pointer none)))) from rfl]
  simp only [Result.andThen_ok, Sem.run_bind, run_equalIn_ptr_nil, Sem.run_pure]
theorem BV.ptr_nenil {t : TypeId} [ht : PtrT P t] {a : Addr} : BV P .neq t (.pointer (some a)) (.pointer none) (.bool true) := fun w ox oy => by
  rw [Sem.run_bind, eqGuard_one (by intro cs; simp) (by simp)]
  rw [show binOp .neq t (.pointer (some a)) (.pointer none) = (do pure (.bool (!(← Op.equalIn (9999 + 1) t (.pointer (some a)) (.pointer none))))) from rfl]
  simp only [Result.andThen_ok, Sem.run_bind, run_equalIn_ptr_nil, Sem.run_pure, Bool.not_false]
theorem EW.not {t : TypeId} {x : Operand} {b : Bool} (ho : ops[i]? = some o) (hop : o.op = .unOp .not t x) (hg : wantedE ops e o = some true) (hd : o.dst = some d) (hdn : Nat.blt d n = true) (hx : ev e x = some (.bool b))
    (h : EW P m S n ops Q l ((d, .bool (!b)) :: e) w) : EW P m S n ops Q ((i, .q) :: l) e w :=
  EW.q ho hg hd hdn (fun a ha w' _ => by simp [Qt, execOp, hop, ha.eval hx, Op.unary]) h
/-- The address of a slice's element. -/
theorem EW.indexAddr {x ix : Operand} {t et : TypeId} {ag : Bool} {size k c : Nat} {A : Addr} {j : Int} [ht : SlT P t et] [hs : TyI P et ag size] (ho : ops[i]? = some o) (hop : o.op = .indexAddr t x ix) (hg : wantedE ops e o = some true) (hd : o.dst = some d) (hdn : Nat.blt d n = true)
    (hx : ev e x = some (.slice (some A) k c)) (hj : ev e ix = some (.int .i64 j)) (h0 : 0 ≤ j) (h1 : j < k)
    (h : EW P m S n ops Q l ((d, .pointer (some (A.add (j.toNat * size)))) :: e) w) : EW P m S n ops Q ((i, .q) :: l) e w :=
  EW.q ho hg hd hdn (fun a ha w' _ => by simp [Qt, execOp, hop, ha.eval hx, ha.eval hj, Instr.indexAt, asIntOf, run_underlying ht.u, h0, h1, hs.size]) h
end
end Go.Cw
/-
  SLICES: what an element type is, a slice that is read, a slice that is owned; append, make, a literal of one element.
-/
set_option linter.unusedVariables false
set_option linter.unusedSectionVars false
namespace Go.Cw

/-- An element type. -/
structure El (P : Program) (α : Type) where
  ty : TypeId
  size : Nat
  bytes : Nat
  enc : α → Value
  zero : Value
  info : (P.info? ty).map (fun i => (i.zero, i.size, i.bytes)) = some (some zero, size, bytes)
  zsize : zero.cells.size = size
  pos : 0 < size
  posb : 0 < bytes
  cells : ∀ x, (enc x).cells.size = size
  one : ∀ x, ∀ u ∈ (enc x).cells.toList, u.oneCell' = true
  ld : ∀ (w : World) (p : Addr) (x : α), (∀ (j : Nat) (u : Value), (enc x).cells.toList[j]? = some u → w.cell? (p.add j) = some u) → LD P w ty p (enc x)

section
variable {P : Program} {α : Type}

def flat (E : El P α) : List α → List Value
  | [] => []
  | x :: r => (E.enc x).cells.toList ++ flat E r
theorem flat_len (E : El P α) : ∀ xs, (flat E xs).length = xs.length * E.size
  | [] => by simp [flat]
  | x :: r => by simp [flat, flat_len E r, E.cells, Nat.add_mul]; omega
theorem flat_append (E : El P α) : ∀ xs ys, flat E (xs ++ ys) = flat E xs ++ flat E ys
  | [], ys => by simp [flat]
  | x :: r, ys => by simp [flat, flat_append E r ys]
theorem flat_one (E : El P α) : ∀ xs, ∀ u ∈ flat E xs, u.oneCell' = true
  | [], u, h => by simp [flat] at h
  | x :: r, u, h => by
    simp only [flat, List.mem_append] at h
    exact h.elim (E.one x u) (flat_one E r u)
theorem flat_take (E : El P α) : ∀ (xs : List α) (k : Nat), (flat E xs).take (k * E.size) = flat E (xs.take k)
  | [], k => by simp [flat]
  | x :: r, 0 => by simp [flat]
  | x :: r, k + 1 => by
    have hx : (E.enc x).cells.toList.length = E.size := by simp [E.cells]
    simp only [flat, List.take_succ_cons]
    rw [Nat.add_mul, Nat.one_mul, Nat.add_comm, ← hx, List.take_length_add_append, hx, flat_take E r k]
theorem flat_drop (E : El P α) : ∀ (xs : List α) (k : Nat), (flat E xs).drop (k * E.size) = flat E (xs.drop k)
  | [], k => by simp [flat]
  | x :: r, 0 => by simp [flat]
  | x :: r, k + 1 => by
    have hx : (E.enc x).cells.toList.length = E.size := by simp [E.cells]
    simp only [flat, List.drop_succ_cons]
    rw [Nat.add_mul, Nat.one_mul, Nat.add_comm, ← hx, List.drop_length_add_append, hx, flat_drop E r k]
theorem flat_get (E : El P α) {xs : List α} {i : Nat} {x : α} (h : xs[i]? = some x) {j : Nat} {u : Value} (hu : (E.enc x).cells.toList[j]? = some u) : (flat E xs)[i * E.size + j]? = some u := by
  have h1 : (flat E xs).drop (i * E.size) = flat E (xs.drop i) := flat_drop E xs i
  have hl : i < xs.length := (List.getElem?_eq_some_iff.1 h).1
  have h2 : xs.drop i = x :: xs.drop (i + 1) := by
    rw [List.drop_eq_getElem_cons hl]
    congr 1
    exact (List.getElem?_eq_some_iff.1 h).2
  rw [← List.getElem?_drop, h1, h2, flat, List.getElem?_append_left (List.getElem?_eq_some_iff.1 hu).1, hu]

/-- A load that goes by one block. -/
def LDP (P : Program) (w : World) (t : TypeId) (p : Addr) (v : Value) : Prop := p.block < w.heap.size ∧ ∀ w', w'.heap[p.block]? = w.heap[p.block]? → LD P w' t p v
theorem LDP.keep {w w' : World} {S : Nat → Prop} {t : TypeId} {p : Addr} {v : Value} (h : LDP P w t p v) (hk : Keep S w w') (hs : ¬ S p.block) : LDP P w' t p v :=
  ⟨Nat.lt_of_lt_of_le h.1 hk.size, fun w'' hw => h.2 w'' (hw.trans (hk.block _ h.1 hs))⟩
theorem LDP.drew {w : World} {t : TypeId} {p : Addr} {v : Value} (h : LDP P w t p v) : LDP P w.drew t p v := h.keep (S := noS) (Keep.drew w) (fun h => h)
theorem LDP.ld {w : World} {t : TypeId} {p : Addr} {v : Value} (h : LDP P w t p v) : LD P w t p v := h.2 w rfl
theorem LDP.pt1 {w : World} {t : TypeId} {b o : Nat} {cs : Array Value} {et : TypeId} {fr : Nat × Nat} {v : Value} {sz : Nat} (hb : w.heap[b]? = some (.cells cs et fr)) [ht : TyI P t false sz] (hv : cs[o]? = some v) : LDP P w t ⟨b, o, none⟩ v :=
  ⟨(Array.getElem?_eq_some_iff.1 hb).1, fun w' hw => LD.pt1 (hw.trans hb) hv⟩
theorem LDP.ptA {w : World} {t : TypeId} {b o : Nat} {cs : List Value} {et : TypeId} {fr : Nat × Nat} {vs : List Value} {sz : Nat} (hb : w.heap[b]? = some (.cells cs.toArray et fr)) [ht : TyI P t true sz] (hv : (cs.drop o).take sz = vs) (hl : Nat.ble (o + sz) cs.length = true) : LDP P w t ⟨b, o, none⟩ (.agg vs.toArray) :=
  ⟨(Array.getElem?_eq_some_iff.1 hb).1, fun w' hw => LD.ptA (hw.trans hb) hv hl⟩

/-- A slice that is read: its elements lie at A. -/
structure SlA (E : El P α) (w : World) (A : Option Addr) (xs : List α) : Prop where
  some_ : xs ≠ [] → ∃ ad, A = some ad ∧ ad.block < w.heap.size
  cell : ∀ ad, A = some ad → ∀ j u, (flat E xs)[j]? = some u → w.cell? (ad.add j) = some u
theorem add_block (a : Addr) (n : Nat) : (a.add n).block = a.block := by unfold Addr.add; split <;> rfl
theorem SlA.nil (E : El P α) (w : World) (A : Option Addr) : SlA E w A [] := ⟨fun h => absurd rfl h, fun _ _ j u h => by simp [flat] at h⟩
theorem SlA.at_ {E : El P α} {w : World} {A : Option Addr} {xs : List α} (h : SlA E w A xs) {i : Nat} (hi : i < xs.length) : ∃ ad, A = some ad ∧ ad.block < w.heap.size ∧ ∀ (k : Nat) (x : α), xs[k]? = some x → LDP P w E.ty (ad.add (k * E.size)) (E.enc x) := by
  obtain ⟨ad, hA, hb⟩ := h.some_ (by intro hn; subst hn; simp at hi)
  refine ⟨ad, hA, hb, fun k x hx => ⟨by rw [add_block]; exact hb, fun w' hw => E.ld w' _ x fun j u hu => ?_⟩⟩
  rw [add_block] at hw
  have hc := h.cell ad hA (k * E.size + j) u (flat_get E hx hu)
  rw [add_add]
  rw [← hc]
  refine World.cell?_of_block ?_
  rw [add_block]; exact hw
theorem SlA.keep {E : El P α} {w w' : World} {S : Nat → Prop} {A : Option Addr} {xs : List α} (h : SlA E w A xs) (hk : Keep S w w') (hs : ∀ ad, A = some ad → ¬ S ad.block) : SlA E w' A xs := {
  some_ := fun hn => let ⟨ad, hA, hb⟩ := h.some_ hn; ⟨ad, hA, Nat.lt_of_lt_of_le hb hk.size⟩
  cell := fun ad hA j u hu => hk.cell (h.cell ad hA j u hu) (by rw [add_block]; exact hs ad hA) }
theorem SlA.stay {E : El P α} {w w' : World} {A : Option Addr} {xs : List α} (h : SlA E w A xs) (hk : Keep noS w w') : SlA E w' A xs := h.keep hk fun _ _ x => x
theorem SlA.take {E : El P α} {w : World} {A : Option Addr} {xs : List α} (h : SlA E w A xs) (k : Nat) : SlA E w A (xs.take k) := {
  some_ := fun hn => h.some_ (by intro h0; subst h0; simp at hn)
  cell := fun ad hA j u hu => h.cell ad hA j u (by
    rw [← flat_take] at hu
    rw [List.getElem?_take] at hu
    split at hu
    · exact hu
    · cases hu) }
theorem SlA.drop {E : El P α} {w : World} {ad : Addr} {xs : List α} (h : SlA E w (some ad) xs) (k : Nat) : SlA E w (some (ad.add (k * E.size))) (xs.drop k) := {
  some_ := fun hn => by
    obtain ⟨a, ha, hb⟩ := h.some_ (by intro h0; subst h0; simp at hn)
    injection ha with ha; subst ha
    exact ⟨_, rfl, by rw [add_block]; exact hb⟩
  cell := fun a hA j u hu => by
    injection hA with hA; subst hA
    rw [← flat_drop, List.getElem?_drop] at hu
    rw [add_add]
    exact h.cell ad rfl _ u hu }

/-- A slice whose row is nobody else's. -/
def own (E : El P α) (v : Value) (xs : List α) : Res := {
  fp := fun b => v.ownBlock = some b
  holds := fun w => w.ownsRow 0 E.ty E.size v xs.length (flat E xs)
  loc := fun w w' h hb => by
    refine ⟨h.1, ?_⟩
    rcases h.2 with hn | ⟨g, cap, cur, rfl, hb0, hg, rest⟩
    · exact .inl hn
    · exact .inr ⟨g, cap, cur, rfl, hb0, (hb g rfl).trans hg, rest⟩
  old := fun w h b hb => (h.lt b hb).2 }
theorem own_nil (E : El P α) (w : World) : (own E (.slice none 0 0) []).holds w := World.ownsRow_nil w 0 E.ty E.size
theorem own_sl {E : El P α} {w : World} {v : Value} {xs : List α} (h : (own E v xs).holds w) : ∃ A c, v = .slice A xs.length c ∧ SlA E w A xs ∧ xs.length ≤ c ∧ c ≤ maxLen ∧ (∀ ad, A = some ad → v.ownBlock = some ad.block ∧ ad.off = 0 ∧ ad.spot = none) ∧ (A = none → c = 0 ∧ xs = []) := by
  have h0 := h
  rcases h.2 with ⟨rfl, hn⟩ | ⟨g, cap, cur, rfl, _, hg, h1, h2, h3, h4⟩
  · have : xs = [] := List.eq_nil_of_length_eq_zero hn
    subst this
    exact ⟨none, 0, rfl, SlA.nil E w none, Nat.le_refl _, by unfold maxLen; omega, fun _ h => (by cases h), fun _ => ⟨rfl, rfl⟩⟩
  · refine ⟨some ⟨g, 0, none⟩, cap, rfl, ⟨fun _ => ⟨_, rfl, (Array.getElem?_eq_some_iff.1 hg).1⟩, fun ad hA j u hu => ?_⟩, h1, h2, fun ad hA => ?_, fun h => by cases h⟩
    · injection hA with hA; subst hA
      exact h0.cells (g := g) rfl j u hu
    · injection hA with hA; subst hA
      exact ⟨rfl, rfl, rfl⟩
theorem own_slA {E : El P α} {w : World} {A : Option Addr} {n c : Nat} {xs : List α} (h : (own E (.slice A n c) xs).holds w) : SlA E w A xs ∧ n = xs.length ∧ n ≤ c ∧ c ≤ maxLen := by
  obtain ⟨A', c', he, h1, h2, h3, _⟩ := own_sl h
  injection he with e1 e2 e3
  subst e1; subst e2; subst e3
  exact ⟨h1, rfl, h2, h3⟩
theorem own_cap {E : El P α} {w : World} {v : Value} {xs : List α} (h : (own E v xs).holds w) : ∃ A c, v = .slice A xs.length c := let ⟨A, c, h, _⟩ := own_sl h; ⟨A, c, h⟩
theorem own_shrink {E : El P α} {w : World} {A : Option Addr} {n c : Nat} {xs : List α} (h : (own E (.slice A n c) xs).holds w) (k : Nat) (hk : k ≤ xs.length) : (own E (.slice A k c) (xs.take k)).holds w := by
  have hl : (xs.take k).length = k := by simp; omega
  refine ⟨by simp [flat_len], ?_⟩
  rcases h.2 with ⟨hv, hn⟩ | ⟨g, cap, cur, hv, hb0, hg, h1, h2, h3, h4⟩
  · injection hv with e1 e2 e3
    subst e1; subst e3
    have : xs = [] := List.eq_nil_of_length_eq_zero hn
    subst this
    simp at hk; subst hk
    exact .inl ⟨rfl, by simp⟩
  · injection hv with e1 e2 e3
    subst e1; subst e3
    refine .inr ⟨g, _, cur, by rw [hl], hb0, hg, by rw [hl]; omega, h2, h3, ?_⟩
    rw [hl, ← flat_take, ← h4, List.take_take, Nat.min_eq_left (Nat.mul_le_mul_right _ hk)]

/-- New memory: owned, and none of it was there in w. -/
structure Fresh (E : El P α) (w w' : World) (v : Value) (xs : List α) : Prop where
  own : (own E v xs).holds w'
  new : ∀ b, (Cw.own E v xs).fp b → w.heap.size ≤ b
theorem Fresh.nil (E : El P α) (w w' : World) : Fresh E w w' (.slice none 0 0) [] := ⟨own_nil E w', fun b hb => by simp [Cw.own, Value.ownBlock] at hb⟩
theorem St.fresh {w0 w w' : World} {S0 : Nat → Prop} {H : List Res} {E : El P α} {v : Value} {xs : List α} (h : St w0 S0 w H) (hk : Keep noS w w') (hf : Fresh E w w' v xs) : St w0 S0 w' (Cw.own E v xs :: H) := h.add hk hf.own hf.new
/-- What is owned at the end of a call that began in w0 with S0 empty is new. -/
theorem St.to_fresh {w0 w : World} {H : List Res} {E : El P α} {v : Value} {xs : List α} (h : St w0 noS w H) (k : Nat) (hk : H[k]? = some (Cw.own E v xs)) : Fresh E w0 w v xs :=
  ⟨h.res k hk, fun b hb => (h.own _ (List.mem_of_getElem? hk) b hb).resolve_right (fun x => x)⟩
theorem Fresh.sl {E : El P α} {w w' : World} {v : Value} {xs : List α} (h : Fresh E w w' v xs) : ∃ A c, v = .slice A xs.length c ∧ SlA E w' A xs ∧ xs.length ≤ c ∧ (∀ ad, A = some ad → w.heap.size ≤ ad.block) := by
  obtain ⟨A, c, h1, h2, h3, _, h5, _⟩ := own_sl h.own
  exact ⟨A, c, h1, h2, h3, fun ad hA => h.new _ (h5 ad hA).1⟩
theorem St.sl {w0 w : World} {S0 : Nat → Prop} {H : List Res} {E : El P α} {A : Option Addr} {n c : Nat} {xs : List α} (h : St w0 S0 w H) (k : Nat) (hk : H[k]? = some (Cw.own E (.slice A n c) xs)) : SlA E w A xs := (own_slA (h.res k hk)).1
/-- A nil slice becomes a resource. -/
theorem St.nil {w0 w : World} {S0 : Nat → Prop} {H : List Res} (E : El P α) (h : St w0 S0 w H) : St w0 S0 w (Cw.own E (.slice none 0 0) [] :: H) := h.add (Keep.refl _ _) (own_nil E w) (fun b hb => by simp [Cw.own, Value.ownBlock] at hb)

/-! ### One element as a literal; append -/
theorem foldl_set : ∀ (l : List Value) (s : Nat) (cells : Array Value) (k : Nat), s + l.length ≤ cells.size →
    ((l.zipIdx s).foldl (fun cs (p : Value × Nat) => cs.setIfInBounds p.2 p.1) cells)[k]? = if s ≤ k ∧ k < s + l.length then l[k - s]? else cells[k]?
  | [], s, cells, k, _ => by simp; omega
  | x :: r, s, cells, k, h => by
    simp only [List.length_cons] at h
    simp only [List.zipIdx_cons, List.foldl_cons]
    rw [foldl_set r (s + 1) _ k (by simp; omega)]
    by_cases h1 : s + 1 ≤ k ∧ k < s + 1 + r.length
    · rw [if_pos h1, if_pos (by simp only [List.length_cons]; omega), show k - s = (k - (s + 1)) + 1 from by omega]
      simp
    · rw [if_neg h1]
      by_cases h2 : k = s
      · subst h2
        rw [if_pos (by simp only [List.length_cons]; omega)]
        have hlt : k < cells.size := by omega
        simp [hlt]
      · rw [if_neg (by simp only [List.length_cons]; omega), Array.getElem?_setIfInBounds_ne (by omega)]
theorem fill_one (cells : Array Value) (v : Value) (h : v.cells.size = cells.size) : Instr.fill (fun i => some (i * cells.size, cells.size)) cells [(0, v)] = some v.cells := by
  have h1 : (v.cells.zipIdx.foldl (fun cs (p : Value × Nat) => cs.setIfInBounds p.2 p.1) cells) = v.cells := by
    rw [← Array.foldl_toList]
    apply Array.ext_getElem?
    intro k
    have := foldl_set v.cells.toList 0 cells k (by simp [h])
    rw [Array.toList_zipIdx]
    rw [this]
    by_cases hk : k < v.cells.size
    · rw [if_pos (by simpa using hk)]; simp
    · rw [if_neg (by simpa using hk), Array.getElem?_eq_none (by omega), Array.getElem?_eq_none (by omega)]
  simp only [Instr.fill, Nat.zero_mul, Nat.zero_add, h, ne_eq, not_true_eq_false, decide_false, Bool.false_or]
  rw [if_neg (by simp)]
  rw [h1]
theorem run_lit_one (E : El P α) (t : TypeId) [ht : SlT P t E.ty] (y : α) (w : World) (h24 : E.size ≤ 2 ^ 24) :
    (Instr.buildSlice t 1 #[(0, E.enc y)]).run P w = .ok (.slice (some ⟨w.heap.size, 0, none⟩) 1 1) (w.alloc (.cells (E.enc y).cells E.ty)) := by
  obtain ⟨i, hi, hzz⟩ := Option.map_eq_some_iff.1 E.info
  simp only [Prod.mk.injEq] at hzz
  obtain ⟨hz, hs, hb⟩ := hzz
  refine run_buildSlice (P := P) w t E.ty 1 #[(0, E.enc y)] (E.enc y).cells i E.zero ht.u hi hz (by rw [hs, Nat.one_mul]; omega) (by rw [hs, Nat.one_mul]; have := E.pos; omega) ?_
  have hc : ((Array.range (1 * i.size)).map (E.zero.cells[· % E.zero.cells.size]!)).size = i.size := by simp
  have := fill_one ((Array.range (1 * i.size)).map (E.zero.cells[· % E.zero.cells.size]!)) (E.enc y) (by rw [hc, E.cells, hs])
  rw [hc] at this
  exact this
end

section
variable {P : Program} {α : Type} {m : Bool} {S : Nat → Prop} {n : Nat} {ops : Array Oper} {Q : Exit → Act → World → Prop}
variable {i : Nat} {o : Oper} {d : Nat} {v : Value} {l : List (Nat × Kd3)} {e : Env} {w w0 : World} {S0 : Nat → Prop} {H : List Res}

theorem EW.loadP {x : Operand} {t : TypeId} {p : Addr} (ho : ops[i]? = some o) (hop : o.op = .load t x) (hg : wantedE ops e o = some true) (hd : o.dst = some d) (hdn : Nat.blt d n = true) (hx : ev e x = some (.pointer (some p)))
    (hl : LDP P w t p v) (hS : m = true ∨ ¬ S p.block) (h : EW P m S n ops Q l ((d, v) :: e) w) : EW P m S n ops Q ((i, .q) :: l) e w :=
  EW.load ho hop hg hd hdn hx (fun w' hc => by
    unfold Cl at hc
    split at hc
    · subst hc; exact hl.ld
    · rename_i hm
      exact (hl.keep hc (hS.resolve_left hm)).ld) h
theorem St.ld1 {t : TypeId} {b o : Nat} {cs : Array Value} {et : TypeId} {fr : Nat × Nat} {v : Value} {sz : Nat} [ht : TyI P t false sz] (hs : St w0 S0 w H) (k : Nat) (hk : H[k]? = some (pt b (.cells cs et fr))) (hv : cs[o]? = some v) : LDP P w t ⟨b, o, none⟩ v :=
  LDP.pt1 (hs.res k hk) hv
theorem St.ldA {t : TypeId} {b o : Nat} {cs : List Value} {et : TypeId} {fr : Nat × Nat} {vs : List Value} {sz : Nat} [ht : TyI P t true sz] (hs : St w0 S0 w H) (k : Nat) (hk : H[k]? = some (pt b (.cells cs.toArray et fr))) (hv : (cs.drop o).take sz = vs) (hl : Nat.ble (o + sz) cs.length = true) : LDP P w t ⟨b, o, none⟩ (.agg vs.toArray) :=
  LDP.ptA (hs.res k hk) hv hl
theorem EW.caseB {b : Bool} (ht : b = true → EW P m S n ops Q l ((d, .bool true) :: e) w) (hf : b = false → EW P m S n ops Q l ((d, .bool false) :: e) w) : EW P m S n ops Q l ((d, .bool b) :: e) w := by
  cases b
  · exact hf rfl
  · exact ht rfl
theorem run_storeCells_lit (g : Nat) (t : TypeId) : ∀ (vs : List Value) (o i : Nat) (cur : Array Value) (w : World), w.heap[g]? = some (.cells cur t (0, 0)) → o + i + vs.length ≤ cur.size → (∀ v ∈ vs, v.oneCell' = true) →
    ∃ w', (storeCells ⟨g, o, none⟩ vs i).run P w = .ok () w' ∧ w'.heap[g]? = some (.cells (vs.foldl (fun (st : Array Value × Nat) v => (st.1.setIfInBounds st.2 v, st.2 + 1)) (cur, o + i)).1 t (0, 0)) ∧ Keep (fun k => k = g) w w' := by
  intro vs
  induction vs with
  | nil => intro o i cur w hg _ _; exact ⟨w, by simp [storeCells], by simpa using hg, Keep.refl _ _⟩
  | cons v vs ih =>
    intro o i cur w hg hl h1
    simp only [List.length_cons] at hl
    have hcell : w.cell? ⟨g, o + i, none⟩ = some (cur[o + i]'(by omega)) := by
      rw [cell_of_row w g (o + i) cur t (0, 0) hg]; simp
    have hfr : w.frozen? ⟨g, o + i, none⟩ = false := frozen_of_row w g (o + i) cur t hg
    have hst : (store ((⟨g, o, none⟩ : Addr).add i) v).run P w = .ok () (w.setCell ⟨g, o + i, none⟩ v) := by
      rw [add_at, run_store P w _ v _ (h1 v (by simp))]
      simp [hcell, hfr]
    have hh : (w.setCell ⟨g, o + i, none⟩ v).heap[g]? = some (.cells (cur.setIfInBounds (o + i) v) t (0, 0)) := heap_setCell_same w g (o + i) cur t v hg
    obtain ⟨w', hr, hw, hk⟩ := ih o (i + 1) (cur.setIfInBounds (o + i) v) _ hh (by simp; omega) (fun v hv => h1 v (by simp [hv]))
    refine ⟨w', ?_, ?_, ?_⟩
    · simp only [storeCells, Sem.run_bind, hst, Result.andThen_ok, hr]
    · simpa [Nat.add_assoc] using hw
    · refine Keep.trans (b := w.setCell ⟨g, o + i, none⟩ v) ⟨rfl, rfl, rfl, Nat.le_refl _, by simp, fun k hk hne => heap_setCell_other w ⟨g, o + i, none⟩ k v hne⟩ hk
def setAt : List Value → Nat → List Value → List Value
  | cs, _, [] => cs
  | cs, o, v :: r => setAt (cs.set o v) (o + 1) r
theorem setAt_fold : ∀ (vs : List Value) (cs : List Value) (o : Nat), (vs.foldl (fun (st : Array Value × Nat) v => (st.1.setIfInBounds st.2 v, st.2 + 1)) (cs.toArray, o)).1 = (setAt cs o vs).toArray
  | [], cs, o => rfl
  | v :: r, cs, o => by
    simp only [List.foldl_cons, setAt, List.setIfInBounds_toArray]
    exact setAt_fold r (cs.set o v) (o + 1)
/-- A store into a block that is known. -/
theorem EW.store (hs : St w0 S0 w H) (k : Nat) {b off : Nat} {cs : List Value} {et : TypeId} {x y : Operand} {t : TypeId} {ag : Bool} {sz : Nat} [ht : TyI P t ag sz] {vs : List Value} (ho : ops[i]? = some o) (hop : o.op = .store t x y) (hg : wantedE ops e o = some true) (hd : o.dst = none)
    (hx : ev e x = some (.pointer (some ⟨b, off, none⟩))) (hk : H[k]? = some (pt b (.cells cs.toArray et (0, 0)))) (hy : ev e y = some v) (hvs : v.cells.toList = vs) (hsz : vs.length = sz) (h1 : ∀ u ∈ vs, u.oneCell' = true) (hl : Nat.ble (off + sz) cs.length = true) (hS : m = true ∨ S b)
    (h : ∀ w', St w0 S0 w' (H.set k (pt b (.cells (setAt cs off vs).toArray et (0, 0)))) → EW P m S n ops Q l e w') : EW P m S n ops Q ((i, .l) :: l) e w := by
  have hl' : off + sz ≤ cs.length := by simpa [Nat.ble_eq] using hl
  have hb : w.heap[b]? = some (.cells cs.toArray et (0, 0)) := hs.res k hk
  obtain ⟨w', hr, hw, hkp⟩ := run_storeCells_lit (P := P) b et vs off 0 cs.toArray w hb (by simp; omega) h1
  have hsz' : v.cells.size = sz := by rw [← hsz, ← hvs]; simp
  refine EW.ls ho hg hd (fun a ha => ?_) (dl_of' (hS.imp id fun hS => hkp.mono fun k _ hk => by subst hk; exact hS)) (h w' (hs.turn k hk (by exact hkp) (R' := pt b _) (by
    show w'.heap[b]? = _
    rw [hw, Nat.add_zero, setAt_fold]) (fun b' hb' => .inl hb')))
  simp only [execOp, hop, ha.eval hx, ha.eval hy, Instr.storeAt, Instr.sureAddr, Sem.run_bind, Sem.run_pure, Result.andThen_ok, storeVar, ht.size]
  rw [if_neg (by simp [hsz'])]
  simp [hvs, hr]
/-- The same, behind all others. -/
theorem EW.storeB (hs : St w0 S0 w H) (k : Nat) {b off : Nat} {cs : List Value} {et : TypeId} {x y : Operand} {t : TypeId} {ag : Bool} {sz : Nat} [ht : TyI P t ag sz] {vs : List Value} (ho : ops[i]? = some o) (hop : o.op = .store t x y) (hg : wantedE ops e o = some true) (hd : o.dst = none)
    (hx : ev e x = some (.pointer (some ⟨b, off, none⟩))) (hk : H[k]? = some (pt b (.cells cs.toArray et (0, 0)))) (hy : ev e y = some v) (hvs : v.cells.toList = vs) (hsz : vs.length = sz) (h1 : ∀ u ∈ vs, u.oneCell' = true) (hl : Nat.ble (off + sz) cs.length = true)
    (h : ∀ w', St w0 S0 w' (H.set k (pt b (.cells (setAt cs off vs).toArray et (0, 0)))) → EW P m S n ops Q l e w') : EW P m S n ops Q ((i, .b) :: l) e w := by
  have hl' : off + sz ≤ cs.length := by simpa [Nat.ble_eq] using hl
  have hb : w.heap[b]? = some (.cells cs.toArray et (0, 0)) := hs.res k hk
  obtain ⟨w', hr, hw, hkp⟩ := run_storeCells_lit (P := P) b et vs off 0 cs.toArray w hb (by simp; omega) h1
  have hsz' : v.cells.size = sz := by rw [← hsz, ← hvs]; simp
  refine EW.bs ho hg hd (fun a ha => ?_) (h w' (hs.turn k hk (by exact hkp) (R' := pt b _) (by
    show w'.heap[b]? = _
    rw [hw, Nat.add_zero, setAt_fold]) (fun b' hb' => .inl hb')))
  simp only [execOp, hop, ha.eval hx, ha.eval hy, Instr.storeAt, Instr.sureAddr, Sem.run_bind, Sem.run_pure, Result.andThen_ok, storeVar, ht.size]
  rw [if_neg (by simp [hsz'])]
  simp [hvs, hr]
/-- A slice literal of one element. -/
theorem EW.lit1 (E : El P α) (y : α) (hs : St w0 S0 w H) {x : Operand} {t : TypeId} [ht : SlT P t E.ty] (ho : ops[i]? = some o) (hop : o.op = .buildSlice t 1 #[(0, x)]) (hg : wantedE ops e o = some true) (hd : o.dst = some d) (hdn : Nat.blt d n = true)
    (hx : ev e x = some (E.enc y)) (h24 : Nat.ble E.size 16777216 = true)
    (h : ∀ b w', St w0 S0 w' (pt b (.cells (E.enc y).cells E.ty) :: H) → EW P m S n ops Q l ((d, .slice (some ⟨b, 0, none⟩) 1 1) :: e) w') : EW P m S n ops Q ((i, .l) :: l) e w :=
  EW.lv ho hg hd hdn (fun a ha => by
    simp only [execOp, hop, List.map_toArray, List.map_cons, List.map_nil, ha.eval hx]
    rw [Sem.run_bind, run_lit_one E t y w (by simpa [Nat.ble_eq] using h24)]; rfl) (dl_of (Keep.alloc w _)) (h _ _ (hs.alloc _))
/-- A struct or another value that is laid in memory. -/
theorem EW.box (hs : St w0 S0 w H) {x : Operand} {t : TypeId} (ho : ops[i]? = some o) (hop : o.op = .box t x) (hg : wantedE ops e o = some true) (hd : o.dst = some d) (hdn : Nat.blt d n = true) (hx : ev e x = some v)
    (h : ∀ b w', St w0 S0 w' (pt b (.cells v.cells t) :: H) → EW P m S n ops Q l ((d, .pointer (some ⟨b, 0, none⟩)) :: e) w') : EW P m S n ops Q ((i, .l) :: l) e w :=
  EW.lv ho hg hd hdn (fun a ha => by simp [execOp, hop, ha.eval hx, Instr.box, newVar, newRow]) (dl_of (Keep.alloc w _)) (h _ _ (hs.alloc _))
theorem EW.alloc (hs : St w0 S0 w H) {t : TypeId} {z : Value} (ho : ops[i]? = some o) (hop : o.op = .alloc t) (hg : wantedE ops e o = some true) (hd : o.dst = some d) (hdn : Nat.blt d n = true) (hz : (P.info? t).map (·.zero) = some (some z))
    (h : ∀ b w', St w0 S0 w' (pt b (.cells z.cells t) :: H) → EW P m S n ops Q l ((d, .pointer (some ⟨b, 0, none⟩)) :: e) w') : EW P m S n ops Q ((i, .l) :: l) e w :=
  EW.lv ho hg hd hdn (fun a ha => by
    obtain ⟨inf, hi, hzz⟩ := Option.map_eq_some_iff.1 hz
    simp [execOp, hop, Instr.alloc, zeroValue, typeInfo, hi, hzz, newVar, newRow]) (dl_of (Keep.alloc w _)) (h _ _ (hs.alloc _))

/-- append(s, ys...): s is owned (resource k), what is appended is read. -/
theorem EW.append (E : El P α) (k : Nat) {xs ys : List α} (hs : St w0 S0 w H) (hk : H[k]? = some (own E v xs)) {s x : Operand} {t : TypeId} {ad : Addr} {c : Nat} [ht : SlT P t E.ty]
    (hy : SlA E w (some ad) ys) (hlen : (xs.length + ys.length) * E.bytes ≤ 140737488355328) (hS : m = true ∨ ∀ b, v.ownBlock = some b → S b)
    (ho : ops[i]? = some o) (hop : o.op = .call { callee := .builtin .append, args := #[s, x], argTypes := #[t, t] }) (hg : wantedE ops e o = some true) (hd : o.dst = some d) (hdn : Nat.blt d n = true) (hsv : ev e s = some v) (hx : ev e x = some (.slice (some ad) ys.length c))
    (h : ∀ v' w', St w0 S0 w' (H.set k (own E v' (xs ++ ys))) → EW P m S n ops Q l ((d, v') :: e) w') : EW P m S n ops Q ((i, .l) :: l) e w := by
  obtain ⟨inf, hi, hzz⟩ := Option.map_eq_some_iff.1 E.info
  simp only [Prod.mk.injEq] at hzz
  obtain ⟨hz, hsz, hb⟩ := hzz
  have hle : xs.length + ys.length ≤ 140737488355328 := Nat.le_trans (Nat.le_mul_of_pos_right _ E.posb) hlen
  obtain ⟨v', w', hr, hown, hgr, _, hloc⟩ := run_append_own_at (P := P) w 0 t o.type E.ty inf E.zero E.size E.bytes ht.u hi hz hsz hb E.zsize E.pos v xs.length (flat E xs) (hs.res k hk) ad ys.length c (flat E ys) (flat_len E ys)
    (fun j u hu => hy.cell ad rfl j u hu) (flat_one E ys) (by unfold maxLen; omega) hlen (Nat.zero_le _)
  have hkeep : Keep (own E v xs).fp w w' := ⟨hgr.os, hgr.tape, hgr.output, run_drawn _ _ _ _ _ hr, hgr.size, fun b hb hn => hgr.block b hb (fun e => hn e.symm)⟩
  refine EW.lv ho hg hd hdn (fun a ha => ?_) (dl_of' (hS.imp id fun hS => hkeep.mono fun b _ hb => hS b hb)) (h v' w' (hs.turn k hk hkeep (R' := own E v' (xs ++ ys)) (by
      show w'.ownsRow 0 E.ty E.size v' (xs ++ ys).length (flat E (xs ++ ys))
      rw [flat_append, List.length_append]; exact hown) (fun b hb => by
      rcases hloc with hl | hl
      · exact .inl (hl.symm.trans hb)
      · refine .inr ?_
        have : v'.ownBlock = some b := hb
        rw [hl] at this; injection this with this; omega)))
  simp only [execOp, hop, resolve, invoke, builtin, Sem.run_bind, Sem.run_pure, Result.andThen_ok, List.map_toArray, List.map_cons, List.map_nil, ha.eval hsv, ha.eval hx, hr]
theorem SlA.lit {E : El P α} {y : α} {b : Nat} (hs : St w0 S0 w H) (kb : Nat) (hkb : H[kb]? = some (pt b (.cells (E.enc y).cells E.ty))) : SlA E w (some ⟨b, 0, none⟩) [y] := ⟨fun _ => ⟨_, rfl, (pt b _).old w (hs.res kb hkb) b rfl⟩, fun ad hA j u hu => by
  injection hA with hA; subst hA
  simp only [flat, List.append_nil] at hu
  rw [add_at, Nat.zero_add, cell_of_row w b j _ _ _ (hs.res kb hkb)]
  simpa using hu⟩
/-- append(s, y): the literal's block is resource kb. -/
theorem EW.append1 (E : El P α) (k kb : Nat) {xs : List α} {y : α} {b : Nat} (hs : St w0 S0 w H) (hk : H[k]? = some (own E v xs)) (hkb : H[kb]? = some (pt b (.cells (E.enc y).cells E.ty))) {s x : Operand} {t : TypeId} [ht : SlT P t E.ty]
    (hlen : (xs.length + 1) * E.bytes ≤ 140737488355328) (hS : m = true ∨ ∀ b, v.ownBlock = some b → S b)
    (ho : ops[i]? = some o) (hop : o.op = .call { callee := .builtin .append, args := #[s, x], argTypes := #[t, t] }) (hg : wantedE ops e o = some true) (hd : o.dst = some d) (hdn : Nat.blt d n = true) (hsv : ev e s = some v) (hx : ev e x = some (.slice (some ⟨b, 0, none⟩) 1 1))
    (h : ∀ v' w', St w0 S0 w' (H.set k (own E v' (xs ++ [y]))) → EW P m S n ops Q l ((d, v') :: e) w') : EW P m S n ops Q ((i, .l) :: l) e w := by
  refine EW.append E k (ys := [y]) (ad := ⟨b, 0, none⟩) (c := 1) hs hk ⟨fun _ => ⟨_, rfl, (pt b _).old w (hs.res kb hkb) b rfl⟩, fun ad hA j u hu => ?_⟩ hlen hS ho hop hg hd hdn hsv hx h
  injection hA with hA; subst hA
  simp only [flat, List.append_nil] at hu
  rw [add_at, Nat.zero_add, cell_of_row w b j _ _ _ (hs.res kb hkb)]
  simpa using hu
end
end Go.Cw
