/- Proved here, as a part of the claim: how the code of the program walks (CwK, CwEq, CwOps2, CwOrd, CwSt, CwRows, CwPart, CwMap, CwOps3, CwSort, CwSortK, CwTree, CwTj, CwOps4, CwRd, CwOps5). -/
import Derived.Test.YtbnjfehippbbfaaGreatDoorGa
import Derived.ScopeJumps
import Derived.Maps.RangeRun
import Derived.Carry
import Derived.Laws.MakeOwn
import Derived.Laws.CopyRow
import Derived.Lib.Overlaps
import Derived.Laws.Externs
import Derived.Lib.SliceRun
import Derived.Shelf.Sort.Plain
import Derived.Shelf.SlSortCmp.WholeK
import Derived.OpenShut
import Derived.ReadAgain
import Derived.Deep.Slices
import Derived.RowKit3
import Derived.ChangeAgain
import Derived.Laws.BytesString
/-
  THE WALK's CONTINUATIONS as a list; contracts of functions that leave old memory alone (T1), or turn what they own (T2).
-/
set_option linter.unusedVariables false
set_option linter.unusedSectionVars false
namespace Go.Cw

inductive KI where
  | seq (y : Code)
  | blk (id : Nat)
  | inv (I : Act → World → Prop)
  | nogo
  | jump (l : Nat) (J : Act → World → Prop)

def post (P : Program) (B : Exit → Act → World → Prop) : List KI → Exit → Act → World → Prop
  | [] => B
  | .seq y :: ks => Exit.then (fun a w => y.wp P (post P B ks) a w) (post P B ks)
  | .blk id :: ks => Exit.inBlock id (post P B ks)
  | .inv I :: ks => Exit.then I (post P B ks)
  | .nogo :: ks => Exit.noGoto (post P B ks)
  | .jump l J :: ks => Exit.jump l J (post P B ks)

section
variable {P : Program} {n : Nat} {B : Exit → Act → World → Prop} {ks : List KI} {e : Env} {w : World} {m : Bool} {S : Nat → Prop} {ops : Array Oper}

theorem KW.seq {x y : Code} (h : CW P n x (post P B (.seq y :: ks)) e w) : CW P n (.seq x y) (post P B ks) e w := CW.seq h
theorem KW.block {id : Nat} {c : Code} (h : CW P n c (post P B (.blk id :: ks)) e w) : CW P n (.block id c) (post P B ks) e w := CW.block h

/-- Behind the last operation, or behind 'skip'. -/
def NW (P : Program) (n : Nat) (Q : Exit → Act → World → Prop) (e : Env) (w : World) : Prop := ∀ a, Frm n a e → Q .normal a w
theorem EW.done {Q : Exit → Act → World → Prop} (h : NW P n Q e w) : EW P m S n ops Q [] e w := h
theorem KW.skip {Q : Exit → Act → World → Prop} (h : NW P n Q e w) : CW P n .skip Q e w := fun a ha => wp_skip (h a ha)
theorem KW.label {l : Nat} {Q : Exit → Act → World → Prop} (h : NW P n Q e w) : CW P n (.label l) Q e w := fun a ha => wp_label (h a ha)
theorem NW.seq {y : Code} (h : CW P n y (post P B ks) e w) : NW P n (post P B (.seq y :: ks)) e w := h
theorem NW.blk {id : Nat} (h : NW P n (post P B ks) e w) : NW P n (post P B (.blk id :: ks)) e w := h
theorem NW.inv {I : Act → World → Prop} (h : ∀ a, Frm n a e → I a w) : NW P n (post P B (.inv I :: ks)) e w := h
theorem NW.nil (h : ∀ a, Frm n a e → B .normal a w) : NW P n (post P B []) e w := h

def XW (P : Program) (n : Nat) (Q : Exit → Act → World → Prop) (id : Nat) (e : Env) (w : World) : Prop := ∀ a, Frm n a e → Q (.exit id) a w
theorem KW.exit {id : Nat} {Q : Exit → Act → World → Prop} (h : XW P n Q id e w) : CW P n (.exit id) Q e w := fun a ha => wp_exit (h a ha)
theorem XW.seq {y : Code} {id : Nat} (h : XW P n (post P B ks) id e w) : XW P n (post P B (.seq y :: ks)) id e w := h
theorem XW.inv {I : Act → World → Prop} {id : Nat} (h : XW P n (post P B ks) id e w) : XW P n (post P B (.inv I :: ks)) id e w := h
theorem XW.blk {id : Nat} (h : NW P n (post P B ks) e w) : XW P n (post P B (.blk id :: ks)) id e w := fun a ha => by
  show (if id = id then _ else _)
  rw [if_pos rfl]; exact h a ha
theorem XW.other {id id' : Nat} (hne : Nat.beq id id' = false) (h : XW P n (post P B ks) id e w) : XW P n (post P B (.blk id' :: ks)) id e w := fun a ha => by
  show (if id = id' then _ else _)
  rw [if_neg (fun h => by subst h; simp at hne)]; exact h a ha

theorem post_ret : ∀ (ks : List KI) (a : Act) (w : World), B .ret a w → post P B ks .ret a w
  | [], _, _, h => h
  | .seq y :: ks, a, w, h => post_ret ks a w h
  | .blk id :: ks, a, w, h => post_ret ks a w h
  | .inv I :: ks, a, w, h => post_ret ks a w h
  | .nogo :: ks, a, w, h => post_ret ks a w h
  | .jump l J :: ks, a, w, h => post_ret ks a w h
theorem KW.ret (h : ∀ a, Frm n a e → B .ret a w) : CW P n .ret (post P B ks) e w := fun a ha => wp_ret (post_ret ks a w (h a ha))
theorem KW.ret1 {fn : Func} {R : Ending → World → Prop} {t : Tmp} {v : Value} (hr : fn.results = #[.tmp t]) (hv : lk e t = some v) (h : R (.returned v) w) : CW P n .ret (post P (bodyPost P fn R) ks) e w :=
  KW.ret fun a ha => post_ret1 ha hr hv h
theorem KW.ret2 {fn : Func} {R : Ending → World → Prop} {t u : Tmp} {v x : Value} (hr : fn.results = #[.tmp t, .tmp u]) (hv : lk e t = some v) (hx : lk e u = some x) (h : R (.returned (.tuple #[v, x])) w) : CW P n .ret (post P (bodyPost P fn R) ks) e w :=
  KW.ret fun a ha => post_ret2 ha hr hv hx h
theorem KW.ret0 {fn : Func} {R : Ending → World → Prop} (hr : fn.results = #[]) (h : R (.returned (.tuple #[])) w) : CW P n .ret (post P (bodyPost P fn R) ks) e w :=
  KW.ret fun a ha => post_ret0 ha hr h
theorem NW.end0 {fn : Func} {R : Ending → World → Prop} (hr : fn.results = #[]) (h : R (.returned (.tuple #[])) w) : NW P n (post P (bodyPost P fn R) []) e w := fun a ha => post_end0 ha hr h
/-- A struct result lies in memory. -/
theorem KW.retCell {fn : Func} {R : Ending → World → Prop} {t : Tmp} {ty : TypeId} {p : Addr} {v : Value} (hr : fn.results = #[.cell t ty]) (hv : lk e t = some (.pointer (some p))) (hl : LDP P w ty p v) (h : R (.returned v) w) : CW P n .ret (post P (bodyPost P fn R) ks) e w :=
  KW.ret fun a ha => ⟨ha.defers, v, by
    have := hl.ld
    unfold LD at this
    simp [results, hr, ha.get _ _ hv, asAddr, this], h⟩

theorem KW.cond {c : Operand} {x y : Code} {Q : Exit → Act → World → Prop} {t : Bool} (hc : ev e c = some (.bool t)) (ht : t = true → CW P n x Q e w) (hf : t = false → CW P n y Q e w) : CW P n (.cond c x y) Q e w := CW.cond hc ht hf
theorem KW.loop {c : Code} {ι : Type} (μ : ι → Nat) (E : ι → Env) (I : ι → World → Prop) (i0 : ι) (he : AllLk e (E i0)) (h0 : I i0 w)
    (round : ∀ i w, I i w → CW P n c (post P B (.inv (fun a' w' => ∃ j, μ j < μ i ∧ Frm n a' (E j) ∧ I j w') :: ks)) (E i) w) : CW P n (.loop c) (post P B ks) e w :=
  CW.loop μ E I i0 he h0 round
theorem KW.cut {x y : Code} {ι : Type} (E : ι → Env) (I : ι → World → Prop)
    (h : CW P n x (post P B (.inv (fun a' w' => ∃ j, Frm n a' (E j) ∧ I j w') :: ks)) e w) (hy : ∀ i w', I i w' → CW P n y (post P B ks) (E i) w') : CW P n (.seq x y) (post P B ks) e w :=
  CW.cut E I h hy
theorem NW.again {ι : Type} {μ : ι → Nat} {E : ι → Env} {I : ι → World → Prop} {i : ι} (j : ι) (hm : μ j < μ i) (he : AllLk e (E j)) (hI : I j w) : NW P n (post P B (.inv (fun a' w' => ∃ j, μ j < μ i ∧ Frm n a' (E j) ∧ I j w') :: ks)) e w :=
  fun a ha => ⟨j, hm, ha.sub he, hI⟩
theorem NW.meet {ι : Type} {E : ι → Env} {I : ι → World → Prop} (j : ι) (he : AllLk e (E j)) (hI : I j w) : NW P n (post P B (.inv (fun a' w' => ∃ j, Frm n a' (E j) ∧ I j w') :: ks)) e w :=
  fun a ha => ⟨j, ha.sub he, hI⟩
theorem KW.enter {f : FuncId} {fn : Func} {c : Code} {args : List Value} {R : Ending → World → Prop}
    (hf : P.funcs[f]? = some fn) (hb : fn.body = some c) (hn : fn.ntmps = n) (hl : Nat.ble args.length n = true)
    (h : CW P n c (post P (bodyPost P fn R) []) (argsE args 0) w) : Calls P f args.toArray w R := calls_of_CW hf hb hn hl h

/-! ### Scopes and jumps -/
theorem KW.scope {c : Code} (h : CW P n c (post P B (.nogo :: ks)) e w) : CW P n (.scope c) (post P B ks) e w := fun a ha => wp_scope_straight (h a ha)
theorem NW.nogo (h : NW P n (post P B ks) e w) : NW P n (post P B (.nogo :: ks)) e w := h
theorem NW.jump {l : Nat} {J : Act → World → Prop} (h : NW P n (post P B ks) e w) : NW P n (post P B (.jump l J :: ks)) e w := h
theorem XW.nogo {id : Nat} (h : XW P n (post P B ks) id e w) : XW P n (post P B (.nogo :: ks)) id e w := h
theorem XW.jump {id l : Nat} {J : Act → World → Prop} (h : XW P n (post P B ks) id e w) : XW P n (post P B (.jump l J :: ks)) id e w := h
def GW (P : Program) (n : Nat) (Q : Exit → Act → World → Prop) (l : Nat) (e : Env) (w : World) : Prop := ∀ a, Frm n a e → Q (.goto l) a w
theorem KW.goto {l : Nat} {Q : Exit → Act → World → Prop} (h : GW P n Q l e w) : CW P n (.goto l) Q e w := fun a ha => wp_goto (h a ha)
theorem GW.seq {y : Code} {l : Nat} (h : GW P n (post P B ks) l e w) : GW P n (post P B (.seq y :: ks)) l e w := h
theorem GW.inv {I : Act → World → Prop} {l : Nat} (h : GW P n (post P B ks) l e w) : GW P n (post P B (.inv I :: ks)) l e w := h
theorem GW.blk {id l : Nat} (h : GW P n (post P B ks) l e w) : GW P n (post P B (.blk id :: ks)) l e w := h
theorem GW.jump {ι : Type} {μ : ι → Nat} {E : ι → Env} {I : ι → World → Prop} {i : ι} {l : Nat} (j : ι) (hm : μ j < μ i) (he : AllLk e (E j)) (hI : I j w) : GW P n (post P B (.jump l (fun a' w' => ∃ j, μ j < μ i ∧ Frm n a' (E j) ∧ I j w') :: ks)) l e w :=
  fun a ha => ⟨rfl, j, hm, ha.sub he, hI⟩
theorem exists_min {α : Type} (p : α → Prop) (μ : α → Nat) : ∀ (k : Nat) (x : α), μ x = k → p x → ∃ y, p y ∧ ∀ z, p z → μ y ≤ μ z := by
  intro k
  induction k using Nat.strongRecOn with
  | _ k ih =>
    intro x hx hp
    by_cases h : ∃ z, p z ∧ μ z < μ x
    · obtain ⟨z, hz, hlt⟩ := h
      exact ih (μ z) (hx ▸ hlt) z rfl hz
    · exact ⟨x, hp, fun z hz => Nat.le_of_not_lt fun hlt => h ⟨z, hz, hlt⟩⟩
open Classical in
/-- A scope in which the run jumps back to one label: what holds at the label is told by j. -/
theorem KW.scopeJ {c R : Code} {l : Nat} {ι : Type} (μ : ι → Nat) (E : ι → Env) (I : ι → World → Prop) (hf : findLabel c l = some (.seq .skip R))
    (pass : ∀ i w, I i w → CW P n R (post P B (.jump l (fun a' w' => ∃ j, μ j < μ i ∧ Frm n a' (E j) ∧ I j w') :: ks)) (E i) w)
    (first : (∀ i w, I i w → CW P n R (post P B (.jump l (fun a' w' => ∃ j, Frm n a' (E j) ∧ I j w') :: ks)) (E i) w) → CW P n c (post P B (.jump l (fun a' w' => ∃ j, Frm n a' (E j) ∧ I j w') :: ks)) e w) :
    CW P n (.scope c) (post P B ks) e w := fun a ha => by
  let p : Act → World → ι → Prop := fun a w j => Frm n a (E j) ∧ I j w
  have hmin : ∀ a w, (∃ j, p a w j) → ∃ y, p a w y ∧ ∀ z, p a w z → μ y ≤ μ z := fun a w ⟨j, hj⟩ => exists_min _ μ (μ j) j rfl hj
  let M : Act → World → Nat := fun a w => if h : ∃ j, p a w j then μ (Classical.choose (hmin a w h)) else 0
  refine wp_scope_jumps l (fun a' w' => ∃ j, Frm n a' (E j) ∧ I j w') M hf (first (fun i w hi a ha => ?_) a ha) fun a w hJ => ?_
  · refine wp_mono (pass i w hi a ha) fun ex a' w' hq => ?_
    cases ex <;> first | exact hq | exact ⟨hq.1, let ⟨j, _, h⟩ := hq.2; ⟨j, h⟩⟩
  · have hM : M a w = μ (Classical.choose (hmin a w hJ)) := dif_pos hJ
    obtain ⟨hy, _⟩ := Classical.choose_spec (hmin a w hJ)
    refine wp_seq (wp_skip ?_)
    refine wp_mono (pass _ w hy.2 a hy.1) fun ex a' w' hq => ?_
    cases ex with
    | goto l' =>
      obtain ⟨he, j, hlt, hfj⟩ := hq
      have hJ' : ∃ j, p a' w' j := ⟨j, hfj⟩
      refine ⟨he, ⟨j, hfj⟩, ?_⟩
      have hM' : M a' w' = μ (Classical.choose (hmin a' w' hJ')) := dif_pos hJ'
      rw [hM, hM']
      exact Nat.lt_of_le_of_lt ((Classical.choose_spec (hmin a' w' hJ')).2 j hfj) hlt
    | _ => exact hq

/-! ### Contracts -/
/-- Old memory stays as it was. -/
def T1 (P : Program) (f : FuncId) (args : List Value) (w : World) (Post : Value → World → Prop) : Prop :=
  Calls P f args.toArray w fun en w' => ∃ v, en = .returned v ∧ Keep noS w w' ∧ Post v w'
/-- Of old memory only S is turned. -/
def T2 (P : Program) (f : FuncId) (args : List Value) (w : World) (S : Nat → Prop) (Post : Value → World → Prop) : Prop :=
  Calls P f args.toArray w fun en w' => ∃ v, en = .returned v ∧ Keep S w w' ∧ Post v w'
theorem T1.mono {f : FuncId} {args : List Value} {Post Post' : Value → World → Prop} (h : T1 P f args w Post) (hp : ∀ v w', Keep noS w w' → Post v w' → Post' v w') : T1 P f args w Post' :=
  Calls.mono h fun en w' ⟨v, he, hk, hv⟩ => ⟨v, he, hk, hp v w' hk hv⟩
theorem KW.enterT1 {f : FuncId} {fn : Func} {c : Code} {args : List Value} {Post : Value → World → Prop}
    (hf : P.funcs[f]? = some fn) (hb : fn.body = some c) (hn : fn.ntmps = n) (hl : Nat.ble args.length n = true)
    (h : CW P n c (post P (bodyPost P fn fun en w' => ∃ v, en = .returned v ∧ Keep noS w w' ∧ Post v w') []) (argsE args 0) w) : T1 P f args w Post := calls_of_CW hf hb hn hl h
theorem KW.enterT2 {f : FuncId} {fn : Func} {c : Code} {args : List Value} {S : Nat → Prop} {Post : Value → World → Prop}
    (hf : P.funcs[f]? = some fn) (hb : fn.body = some c) (hn : fn.ntmps = n) (hl : Nat.ble args.length n = true)
    (h : CW P n c (post P (bodyPost P fn fun en w' => ∃ v, en = .returned v ∧ Keep S w w' ∧ Post v w') []) (argsE args 0) w) : T2 P f args w S Post := calls_of_CW hf hb hn hl h

variable {Q : Exit → Act → World → Prop} {i : Nat} {o : Oper} {d : Nat} {l : List (Nat × Kd3)} {f : FuncId} {fn : Func} {args : List Operand} {at_ : Array TypeId} {vs : List Value} {Post : Value → World → Prop}
theorem EW.callT1 (hc : T1 P f vs w Post) (ho : ops[i]? = some o) (hop : o.op = .call { callee := .value (.func f), args := args.toArray, argTypes := at_ }) (hg : wantedE ops e o = some true) (hd : o.dst = some d) (hdn : Nat.blt d n = true)
    (hf : P.funcs[f]? = some fn) (hfb : fn.body.isNone = false) (hfn : (fn.name == "runtime.NumGoroutine") = false) (ha : evs e args = some vs)
    (h : ∀ v w', Keep noS w w' → Post v w' → EW P m S n ops Q l ((d, v) :: e) w') : EW P m S n ops Q ((i, .l) :: l) e w :=
  EW.call ho hg hop hf hfb hfn ha hc fun en w' ⟨v, he, hk, hp⟩ => ⟨v, he, dl_of hk, .inl ⟨d, hd, hdn, h v w' hk hp⟩⟩
theorem EW.callT2 {S' : Nat → Prop} (hc : T2 P f vs w S' Post) (ho : ops[i]? = some o) (hop : o.op = .call { callee := .value (.func f), args := args.toArray, argTypes := at_ }) (hg : wantedE ops e o = some true) (hd : o.dst = some d) (hdn : Nat.blt d n = true)
    (hf : P.funcs[f]? = some fn) (hfb : fn.body.isNone = false) (hfn : (fn.name == "runtime.NumGoroutine") = false) (ha : evs e args = some vs) (hS : m = true ∨ ∀ b, S' b → S b)
    (h : ∀ v w', Keep S' w w' → Post v w' → EW P m S n ops Q l ((d, v) :: e) w') : EW P m S n ops Q ((i, .l) :: l) e w :=
  EW.call ho hg hop hf hfb hfn ha hc fun en w' ⟨v, he, hk, hp⟩ => ⟨v, he, dl_of' (hS.imp id fun hS => hk.mono fun b _ hb => hS b hb), .inl ⟨d, hd, hdn, h v w' hk hp⟩⟩
end
end Go.Cw
/-
  '==' ON STRUCTS, field by field.
-/
set_option linter.unusedVariables false
set_option linter.unusedSectionVars false
namespace Go.Cw
section
variable {P : Program}
theorem part_one {t : TypeId} {sz : Nat} [ht : TyI P t false sz] {cs : Array Value} {off : Nat} {v : Value} {w : World} (h : cs[off]? = some v) : (part t cs off).run P w = .ok v w := by
  simp [part, ht.agg, h]
theorem part_agg {t : TypeId} {sz : Nat} [ht : TyI P t true sz] {cs : Array Value} {off : Nat} {w : World} : (part t cs off).run P w = .ok (.agg (cs.extract off (off + sz))) w := by
  simp [part, ht.agg, ht.size]
def EqR (P : Program) (d : Nat) (t : TypeId) (a b : Value) (r : Bool) : Prop := ∀ w, (Op.equalIn (d + 1) t a b).run P w = .ok r w
def EqF (P : Program) (d : Nat) (xs ys : Array Value) (fs : List Field) (r : Bool) : Prop := ∀ w, (Op.eqFields (d + 1) xs ys fs).run P w = .ok r w
theorem EqR.str {d : Nat} {t : TypeId} [ht : StrT P t] {a b : ByteArray} : EqR P d t (.string a) (.string b) (decide (a = b)) := fun w => by
  rw [run_equalIn_string w d t a b ht.u, str_eq]
theorem EqR.int {d : Nat} {t : TypeId} {k k' : IntKind} [ht : IntT P t k'] {a b : Int} : EqR P d t (.int k a) (.int k b) (decide (a = b)) := fun w => by
  rw [run_equalIn_int w d t k k' a b ht.u]; rfl
theorem EqR.bool {d : Nat} {t : TypeId} [ht : BoolT P t] {a b : Bool} : EqR P d t (.bool a) (.bool b) (decide (a = b)) := fun w => by
  rw [run_equalIn_bool' w d t a b ht.u]; cases a <;> cases b <;> rfl
theorem EqF.nil {d : Nat} {xs ys : Array Value} : EqF P d xs ys [] true := fun w => rfl
theorem EqF.cons1 {d : Nat} {xs ys : Array Value} {f : Field} {fs : List Field} {a b : Value} {r r' : Bool} {sz : Nat} (hn : (f.name == "_") = false) [ht : TyI P f.type false sz] (ha : xs[f.offset]? = some a) (hb : ys[f.offset]? = some b) (h : EqR P d f.type a b r) (h' : EqF P d xs ys fs r') : EqF P d xs ys (f :: fs) (r && r') := fun w => by
  have hn' : f.name ≠ "_" := by simpa using hn
  simp only [Op.eqFields, hn', ne_eq, not_false_eq_true, if_true, Sem.run_bind, part_one ha, part_one hb, Result.andThen_ok, h w]
  cases r with
  | true => simp [h' w]
  | false => simp
theorem EqF.consA {d : Nat} {xs ys cs ds : Array Value} {f : Field} {fs : List Field} {r r' : Bool} {sz : Nat} (hn : (f.name == "_") = false) [ht : TyI P f.type true sz] (hx : xs.extract f.offset (f.offset + sz) = cs) (hy : ys.extract f.offset (f.offset + sz) = ds) (h : EqR P d f.type (.agg cs) (.agg ds) r) (h' : EqF P d xs ys fs r') : EqF P d xs ys (f :: fs) (r && r') := fun w => by
  subst hx; subst hy
  have hn' : f.name ≠ "_" := by simpa using hn
  simp only [Op.eqFields, hn', ne_eq, not_false_eq_true, if_true, Sem.run_bind, part_agg, Result.andThen_ok, h w]
  cases r with
  | true => simp [h' w]
  | false => simp
theorem EqR.struct {d : Nat} {t : TypeId} {xs ys : Array Value} {r : Bool} {fs : List Field} (ht : P.underlying t = some (.struct (P.fieldsOf t))) (hf : (P.fieldsOf t).toList = fs) (hp : P.stoodInHeld t = false) (h : EqF P d xs ys fs r) : EqR P (d + 1) t (.agg xs) (.agg ys) r := fun w => by
  rw [run_equalIn_agg w (d + 1) t xs ys ht hp, hf]; exact h w
theorem BV.eqAgg {t : TypeId} {xs ys : Array Value} {r : Bool} (hg : P.eqGuardType P.depth t = false) (h : EqR P 9999 t (.agg xs) (.agg ys) r) : BV P .eql t (.agg xs) (.agg ys) (.bool r) := fun w ox oy => by
  rw [Sem.run_bind, run_eqGuard_agg w .eql t ox oy xs ys hg, Result.andThen_ok, run_eql_struct, h w]; rfl
theorem BV.neAgg {t : TypeId} {xs ys : Array Value} {r : Bool} (hg : P.eqGuardType P.depth t = false) (h : EqR P 9999 t (.agg xs) (.agg ys) r) : BV P .neq t (.agg xs) (.agg ys) (.bool (!r)) := fun w ox oy => by
  rw [Sem.run_bind, run_eqGuard_agg w .neq t ox oy xs ys hg, Result.andThen_ok, run_neq_struct, h w]; rfl
end
end Go.Cw
/-
  MORE RULES: pick, a byte of a string, cutting strings and slices.
-/
set_option linter.unusedVariables false
set_option linter.unusedSectionVars false
set_option linter.unusedSimpArgs false
namespace Go.Cw
section
variable {P : Program} {m : Bool} {S : Nat → Prop} {n : Nat} {ops : Array Oper} {Q : Exit → Act → World → Prop}
variable {i : Nat} {o : Oper} {d : Nat} {v : Value} {l : List (Nat × Kd3)} {e : Env} {w : World}

theorem EW.pick {c x y : Operand} {b : Bool} (ho : ops[i]? = some o) (hop : o.op = .pick c x y) (hg : wantedE ops e o = some true) (hd : o.dst = some d) (hdn : Nat.blt d n = true) (hc : ev e c = some (.bool b)) (hv : ev e (cond b x y) = some v)
    (h : EW P m S n ops Q l ((d, v) :: e) w) : EW P m S n ops Q ((i, .q) :: l) e w :=
  EW.q ho hg hd hdn (fun a ha w' _ => by
    have := ha.eval hv
    cases b <;> simp [Qt, execOp, hop, ha.eval hc, asBool] <;> simpa using this) h
theorem EW.pick_t {c x y : Operand} (ho : ops[i]? = some o) (hop : o.op = .pick c x y) (hg : wantedE ops e o = some true) (hd : o.dst = some d) (hdn : Nat.blt d n = true) (hc : ev e c = some (.bool true)) (hv : ev e x = some v)
    (h : EW P m S n ops Q l ((d, v) :: e) w) : EW P m S n ops Q ((i, .q) :: l) e w := EW.pick ho hop hg hd hdn hc hv h
theorem EW.pick_f {c x y : Operand} (ho : ops[i]? = some o) (hop : o.op = .pick c x y) (hg : wantedE ops e o = some true) (hd : o.dst = some d) (hdn : Nat.blt d n = true) (hc : ev e c = some (.bool false)) (hv : ev e y = some v)
    (h : EW P m S n ops Q l ((d, v) :: e) w) : EW P m S n ops Q ((i, .q) :: l) e w := EW.pick ho hop hg hd hdn hc hv h
/-- A byte of a string. -/
theorem EW.indexS {x ix : Operand} {t : TypeId} {s : ByteArray} {j : Int} {b : UInt8} [ht : StrT P t] (ho : ops[i]? = some o) (hop : o.op = .index t x ix) (hg : wantedE ops e o = some true) (hd : o.dst = some d) (hdn : Nat.blt d n = true)
    (hx : ev e x = some (.string s)) (hj : ev e ix = some (.int .i64 j)) (h0 : 0 ≤ j) (hb : s.data.toList[j.toNat]? = some b)
    (h : EW P m S n ops Q l ((d, .int .u8 (b.toNat : Int)) :: e) w) : EW P m S n ops Q ((i, .q) :: l) e w :=
  EW.q ho hg hd hdn (fun a ha w' _ => by
    have hb' : s[j.toNat]? = some b := by
      have hl : j.toNat < s.size := by
        have := (List.getElem?_eq_some_iff.1 hb).1
        simpa using this
      rw [getElem?_pos s j.toNat hl]
      have := (List.getElem?_eq_some_iff.1 hb).2
      rw [← this]; rfl
    simp [Qt, execOp, hop, ha.eval hx, ha.eval hj, Instr.index, asIntOf, run_underlying ht.u, h0, hb']) h
theorem run_sliceStr {t : TypeId} [ht : StrT P t] {s : ByteArray} {lo hi : Nat} (h1 : lo ≤ hi) (h2 : hi ≤ s.size) (w : World) :
    (Instr.sliceAt t (.string s) (some (.int .i64 (lo : Int))) (some (.int .i64 (hi : Int))) none).run P w = .ok (.string (s.extract lo hi)) w := by
  simp [Instr.sliceAt, run_underlying ht.u, Instr.slice, Instr.sliceBounds, Instr.sliceBound, asIntOf, h1, h2, Nat.not_lt.2 h1, Nat.not_lt.2 h2]
theorem run_sliceStr_lo {t : TypeId} [ht : StrT P t] {s : ByteArray} {lo : Nat} (h1 : lo ≤ s.size) (w : World) :
    (Instr.sliceAt t (.string s) (some (.int .i64 (lo : Int))) none none).run P w = .ok (.string (s.extract lo s.size)) w := by
  simp [Instr.sliceAt, run_underlying ht.u, Instr.slice, Instr.sliceBounds, Instr.sliceBound, asIntOf, h1, Nat.not_lt.2 h1]
theorem run_sliceStr_hi {t : TypeId} [ht : StrT P t] {s : ByteArray} {hi : Nat} (h1 : hi ≤ s.size) (w : World) :
    (Instr.sliceAt t (.string s) none (some (.int .i64 (hi : Int))) none).run P w = .ok (.string (s.extract 0 hi)) w := by
  simp [Instr.sliceAt, run_underlying ht.u, Instr.slice, Instr.sliceBounds, Instr.sliceBound, asIntOf, h1, Nat.not_lt.2 h1]
theorem EW.sliceStr {x lo hi : Operand} {t : TypeId} {s : ByteArray} {a b : Nat} [ht : StrT P t] (ho : ops[i]? = some o) (hop : o.op = .slice t x (some lo) (some hi) none) (hg : wantedE ops e o = some true) (hd : o.dst = some d) (hdn : Nat.blt d n = true)
    (hx : ev e x = some (.string s)) (hl : ev e lo = some (.int .i64 (a : Int))) (hh : ev e hi = some (.int .i64 (b : Int))) (h1 : a ≤ b) (h2 : b ≤ s.size)
    (h : EW P m S n ops Q l ((d, .string (s.extract a b)) :: e) w) : EW P m S n ops Q ((i, .q) :: l) e w :=
  EW.q ho hg hd hdn (fun ac ha w' _ => by simp [Qt, execOp, hop, ha.eval hx, ha.eval hl, ha.eval hh, run_sliceStr h1 h2]) h
theorem EW.sliceStr_lo {x lo : Operand} {t : TypeId} {s : ByteArray} {a : Nat} [ht : StrT P t] (ho : ops[i]? = some o) (hop : o.op = .slice t x (some lo) none none) (hg : wantedE ops e o = some true) (hd : o.dst = some d) (hdn : Nat.blt d n = true)
    (hx : ev e x = some (.string s)) (hl : ev e lo = some (.int .i64 (a : Int))) (h1 : a ≤ s.size)
    (h : EW P m S n ops Q l ((d, .string (s.extract a s.size)) :: e) w) : EW P m S n ops Q ((i, .q) :: l) e w :=
  EW.q ho hg hd hdn (fun ac ha w' _ => by simp [Qt, execOp, hop, ha.eval hx, ha.eval hl, run_sliceStr_lo h1]) h
theorem EW.sliceStr_hi {x hi : Operand} {t : TypeId} {s : ByteArray} {b : Nat} [ht : StrT P t] (ho : ops[i]? = some o) (hop : o.op = .slice t x none (some hi) none) (hg : wantedE ops e o = some true) (hd : o.dst = some d) (hdn : Nat.blt d n = true)
    (hx : ev e x = some (.string s)) (hh : ev e hi = some (.int .i64 (b : Int))) (h1 : b ≤ s.size)
    (h : EW P m S n ops Q l ((d, .string (s.extract 0 b)) :: e) w) : EW P m S n ops Q ((i, .q) :: l) e w :=
  EW.q ho hg hd hdn (fun ac ha w' _ => by simp [Qt, execOp, hop, ha.eval hx, ha.eval hh, run_sliceStr_hi h1]) h

/-- Where a cut slice begins. -/
def cutA (A : Option Addr) (cap lo size : Nat) : Option Addr := if cap = lo then A else A.map (·.add (lo * size))
theorem run_sliceSl {t et : TypeId} {ag : Bool} {size : Nat} [ht : SlT P t et] [hs : TyI P et ag size] {A : Option Addr} {len cap lo hi : Nat} (h1 : lo ≤ hi) (h2 : hi ≤ cap) (w : World) :
    (Instr.sliceAt t (.slice A len cap) (some (.int .i64 (lo : Int))) (some (.int .i64 (hi : Int))) none).run P w = .ok (.slice (cutA A cap lo size) (hi - lo) (cap - lo)) w := by
  simp [Instr.sliceAt, run_underlying ht.u, Instr.slice, Instr.sliceBounds, Instr.sliceBound, asIntOf, h1, h2, Nat.not_lt.2 h1, Nat.not_lt.2 h2, hs.size, cutA]
theorem run_sliceSl_lo {t et : TypeId} {ag : Bool} {size : Nat} [ht : SlT P t et] [hs : TyI P et ag size] {A : Option Addr} {len cap lo : Nat} (h1 : lo ≤ len) (w : World) :
    (Instr.sliceAt t (.slice A len cap) (some (.int .i64 (lo : Int))) none none).run P w = .ok (.slice (cutA A cap lo size) (len - lo) (cap - lo)) w := by
  simp [Instr.sliceAt, run_underlying ht.u, Instr.slice, Instr.sliceBounds, Instr.sliceBound, asIntOf, h1, Nat.not_lt.2 h1, hs.size, cutA]
theorem run_sliceSl_hi {t et : TypeId} {ag : Bool} {size : Nat} [ht : SlT P t et] [hs : TyI P et ag size] {A : Option Addr} {len cap hi : Nat} (h2 : hi ≤ cap) (w : World) :
    (Instr.sliceAt t (.slice A len cap) none (some (.int .i64 (hi : Int))) none).run P w = .ok (.slice (cutA A cap 0 size) hi cap) w := by
  simp [Instr.sliceAt, run_underlying ht.u, Instr.slice, Instr.sliceBounds, Instr.sliceBound, asIntOf, h2, Nat.not_lt.2 h2, hs.size, cutA]
theorem cutA_zero (A : Option Addr) (cap size : Nat) : cutA A cap 0 size = A := by
  unfold cutA; split
  · rfl
  · cases A <;> simp [Addr.add]
theorem EW.sliceSl {x lo hi : Operand} {t et : TypeId} {ag : Bool} {size : Nat} [ht : SlT P t et] [hs : TyI P et ag size] {A : Option Addr} {len cap a b : Nat} (ho : ops[i]? = some o) (hop : o.op = .slice t x (some lo) (some hi) none) (hg : wantedE ops e o = some true) (hd : o.dst = some d) (hdn : Nat.blt d n = true)
    (hx : ev e x = some (.slice A len cap)) (hl : ev e lo = some (.int .i64 (a : Int))) (hh : ev e hi = some (.int .i64 (b : Int))) (h1 : a ≤ b) (h2 : b ≤ cap)
    (h : EW P m S n ops Q l ((d, .slice (cutA A cap a size) (b - a) (cap - a)) :: e) w) : EW P m S n ops Q ((i, .q) :: l) e w :=
  EW.q ho hg hd hdn (fun ac ha w' _ => by simp [Qt, execOp, hop, ha.eval hx, ha.eval hl, ha.eval hh, run_sliceSl (P := P) (t := t) (et := et) (ag := ag) (size := size) h1 h2]) h
theorem EW.sliceSl_lo {x lo : Operand} {t et : TypeId} {ag : Bool} {size : Nat} [ht : SlT P t et] [hs : TyI P et ag size] {A : Option Addr} {len cap a : Nat} (ho : ops[i]? = some o) (hop : o.op = .slice t x (some lo) none none) (hg : wantedE ops e o = some true) (hd : o.dst = some d) (hdn : Nat.blt d n = true)
    (hx : ev e x = some (.slice A len cap)) (hl : ev e lo = some (.int .i64 (a : Int))) (h1 : a ≤ len)
    (h : EW P m S n ops Q l ((d, .slice (cutA A cap a size) (len - a) (cap - a)) :: e) w) : EW P m S n ops Q ((i, .q) :: l) e w :=
  EW.q ho hg hd hdn (fun ac ha w' _ => by simp [Qt, execOp, hop, ha.eval hx, ha.eval hl, run_sliceSl_lo (P := P) (t := t) (et := et) (ag := ag) (size := size) h1]) h
theorem EW.sliceSl_hi {x hi : Operand} {t et : TypeId} {ag : Bool} {size : Nat} [ht : SlT P t et] [hs : TyI P et ag size] {A : Option Addr} {len cap b : Nat} (ho : ops[i]? = some o) (hop : o.op = .slice t x none (some hi) none) (hg : wantedE ops e o = some true) (hd : o.dst = some d) (hdn : Nat.blt d n = true)
    (hx : ev e x = some (.slice A len cap)) (hh : ev e hi = some (.int .i64 (b : Int))) (h2 : b ≤ cap)
    (h : EW P m S n ops Q l ((d, .slice A b cap) :: e) w) : EW P m S n ops Q ((i, .q) :: l) e w :=
  EW.q ho hg hd hdn (fun ac ha w' _ => by simp [Qt, execOp, hop, ha.eval hx, ha.eval hh, run_sliceSl_hi (P := P) (t := t) (et := et) (ag := ag) (size := size) h2, cutA_zero]) h
theorem SlA.cut {α : Type} {E : El P α} {A : Option Addr} {xs : List α} (h : SlA E w A xs) {cap lo : Nat} (hc : xs.length ≤ cap) : SlA E w (cutA A cap lo E.size) (xs.drop lo) := by
  unfold cutA
  split
  · rename_i hcl
    rw [List.drop_eq_nil_of_le (by omega)]
    exact SlA.nil E w A
  · cases A with
    | none =>
      have : xs = [] := by
        cases xs with
        | nil => rfl
        | cons x r => obtain ⟨ad, h1, _⟩ := h.some_ (by simp); cases h1
      subst this
      simpa using SlA.nil E w none
    | some ad => exact h.drop lo
end
end Go.Cw
/-
  PLAIN: the order of labels: pieces of a path, byte by byte. No program.
-/
namespace Go.Cw

def cmpL {α : Type} (c : α → α → Int) : List α → List α → Int
  | [], [] => 0
  | [], _ :: _ => -1
  | _ :: _, [] => 1
  | x :: r, y :: s => if c x y = 0 then cmpL c r s else c x y

structure LawCmp {α : Type} (c : α → α → Int) : Prop where
  zero : ∀ x y, c x y = 0 ↔ x = y
  anti : ∀ x y, c y x = - c x y
  trans : ∀ x y z, c x y < 0 → c y z < 0 → c x z < 0
  rng : ∀ x y, c x y = -1 ∨ c x y = 0 ∨ c x y = 1

theorem LawCmp.list {α : Type} {c : α → α → Int} (h : LawCmp c) : LawCmp (cmpL c) := {
  zero := by
    intro x
    induction x with
    | nil => intro y; cases y <;> simp [cmpL]
    | cons a r ih =>
      intro y
      cases y with
      | nil => simp [cmpL]
      | cons b s =>
        simp only [cmpL]
        split
        · rename_i h0
          rw [ih s, (h.zero a b).1 h0]; simp
        · rename_i h0
          constructor
          · intro h1; exact absurd h1 h0
          · intro h1; injection h1 with h1 h2; exact absurd ((h.zero a b).2 h1) h0
  anti := by
    intro x
    induction x with
    | nil => intro y; cases y <;> simp [cmpL]
    | cons a r ih =>
      intro y
      cases y with
      | nil => simp [cmpL]
      | cons b s =>
        simp only [cmpL]
        rw [h.anti a b]
        split
        · rename_i h0
          rw [if_pos (by omega), ih s]
        · rename_i h0
          rw [if_neg (by omega)]
  trans := by
    intro x
    induction x with
    | nil =>
      intro y z
      cases y <;> cases z <;> simp [cmpL]
    | cons a r ih =>
      intro y z
      cases y with
      | nil => simp [cmpL]
      | cons b s =>
        cases z with
        | nil => simp only [cmpL]; intro _ h; omega
        | cons d t =>
          simp only [cmpL]
          by_cases h1 : c a b = 0
          · have e := (h.zero a b).1 h1
            subst e
            rw [if_pos h1]
            by_cases h2 : c a d = 0
            · rw [if_pos h2, if_pos h2]; exact ih s t
            · rw [if_neg h2, if_neg h2]; intro _ h; exact h
          · rw [if_neg h1]
            by_cases h2 : c b d = 0
            · have e := (h.zero b d).1 h2
              subst e
              rw [if_neg h1]; intro h _; exact h
            · rw [if_neg h2]
              intro ha hb
              have := h.trans a b d ha hb
              rw [if_neg (by omega)]
              exact this
  rng := by
    intro x
    induction x with
    | nil => intro y; cases y <;> simp [cmpL]
    | cons a r ih =>
      intro y
      cases y with
      | nil => simp [cmpL]
      | cons b s =>
        simp only [cmpL]
        split
        · exact ih s
        · exact h.rng a b }

def cmpB (a b : UInt8) : Int := if a.toNat < b.toNat then -1 else if b.toNat < a.toNat then 1 else 0
theorem lawB : LawCmp cmpB := {
  zero := by
    intro x y
    unfold cmpB
    constructor
    · intro h
      split at h
      · omega
      · split at h
        · omega
        · exact UInt8.toNat_inj.1 (by omega)
    · intro h; subst h; simp
  anti := by
    intro x y; unfold cmpB
    by_cases h1 : x.toNat < y.toNat
    · rw [if_neg (by omega), if_pos h1, if_pos h1]; rfl
    · by_cases h2 : y.toNat < x.toNat
      · rw [if_pos h2, if_neg h1, if_pos h2]
      · rw [if_neg h2, if_neg h1, if_neg h1, if_neg h2]; rfl
  trans := by
    intro x y z; unfold cmpB
    intro h1 h2
    split at h1
    · split at h2
      · rw [if_pos (by omega)]; omega
      · split at h2 <;> omega
    · split at h1 <;> omega
  rng := by
    intro x y; unfold cmpB
    split
    · exact .inl rfl
    · split
      · exact .inr (.inr rfl)
      · exact .inr (.inl rfl) }

def bl (s : ByteArray) : List UInt8 := s.data.toList
theorem bl_inj {a b : ByteArray} (h : bl a = bl b) : a = b := by
  cases a; cases b
  simp only [bl, Array.toList_inj] at h
  rw [h]
theorem bl_length (s : ByteArray) : (bl s).length = s.size := rfl

/-- Two texts, byte by byte. -/
def cmpS (a b : ByteArray) : Int := cmpL cmpB (bl a) (bl b)
theorem LawCmp.map {α β : Type} {c : β → β → Int} (h : LawCmp c) (f : α → β) (hf : ∀ x y, f x = f y → x = y) : LawCmp (fun x y => c (f x) (f y)) := {
  zero := fun x y => by
    rw [h.zero]
    exact ⟨hf x y, fun e => by rw [e]⟩
  anti := fun x y => h.anti _ _
  trans := fun x y z => h.trans _ _ _
  rng := fun x y => h.rng _ _ }
theorem lawS : LawCmp cmpS := lawB.list.map bl fun _ _ => bl_inj

/-- The pieces between the slashes. -/
def splitL : List UInt8 → List (List UInt8)
  | [] => [[]]
  | c :: r => if c = 47 then [] :: splitL r else match splitL r with
    | [] => [[c]]
    | p :: ps => (c :: p) :: ps
def joinL : List (List UInt8) → List UInt8
  | [] => []
  | [p] => p
  | p :: q :: r => p ++ 47 :: joinL (q :: r)
theorem splitL_ne (l : List UInt8) : splitL l ≠ [] := by
  cases l with
  | nil => simp [splitL]
  | cons c r =>
    simp only [splitL]
    split
    · simp
    · split <;> simp
theorem join_split : ∀ l : List UInt8, joinL (splitL l) = l
  | [] => rfl
  | c :: r => by
    have ih := join_split r
    have hne := splitL_ne r
    simp only [splitL]
    split
    · rename_i h
      subst h
      cases hs : splitL r with
      | nil => exact absurd hs hne
      | cons p ps => rw [← hs]; cases hs' : splitL r with
        | nil => exact absurd hs' hne
        | cons p' ps' => rw [hs'] at ih; simp only [joinL] at ih ⊢; rw [ih]; rfl
    · cases hs : splitL r with
      | nil => exact absurd hs hne
      | cons p ps =>
        rw [hs] at ih
        cases ps with
        | nil => simp only [joinL] at ih ⊢; rw [ih]
        | cons q qs => simp only [joinL] at ih ⊢; rw [List.cons_append, ih]
/-- The pieces of a text: none of the empty one. -/
def pieces (s : ByteArray) : List (List UInt8) := if bl s = [] then [] else splitL (bl s)
theorem pieces_inj {a b : ByteArray} (h : pieces a = pieces b) : a = b := by
  apply bl_inj
  unfold pieces at h
  by_cases ha : bl a = []
  · rw [if_pos ha] at h
    by_cases hb : bl b = []
    · rw [ha, hb]
    · rw [if_neg hb] at h; exact absurd h.symm (splitL_ne _)
  · rw [if_neg ha] at h
    by_cases hb : bl b = []
    · rw [if_pos hb] at h; exact absurd h (splitL_ne _)
    · rw [if_neg hb] at h
      rw [← join_split (bl a), h, join_split]
def cmpP (a b : ByteArray) : Int := cmpL (cmpL cmpB) (pieces a) (pieces b)
theorem lawP : LawCmp cmpP := lawB.list.list.map pieces fun _ _ => pieces_inj

/-- A label: its package and its name. -/
structure Lab where
  pkg : ByteArray
  nm : ByteArray
  deriving DecidableEq
def cmpLab (a b : Lab) : Int := if cmpP a.pkg b.pkg = 0 then cmpS a.nm b.nm else cmpP a.pkg b.pkg
theorem lawLab : LawCmp cmpLab := {
  zero := fun x y => by
    unfold cmpLab
    split
    · rename_i h
      rw [lawS.zero]
      have := (lawP.zero _ _).1 h
      obtain ⟨p, q⟩ := x
      obtain ⟨p', q'⟩ := y
      simp only at this
      subst this
      simp
    · rename_i h
      refine ⟨fun h' => absurd h' h, fun e => ?_⟩
      subst e
      exact (lawP.zero _ _).2 rfl
  anti := fun x y => by
    unfold cmpLab
    rw [lawP.anti x.pkg y.pkg, lawS.anti x.nm y.nm]
    split
    · rw [if_pos (by omega)]
    · rw [if_neg (by omega)]
  trans := fun x y z => by
    unfold cmpLab
    intro h1 h2
    by_cases e1 : cmpP x.pkg y.pkg = 0
    · rw [if_pos e1] at h1
      have q := (lawP.zero _ _).1 e1
      by_cases e2 : cmpP y.pkg z.pkg = 0
      · rw [if_pos e2] at h2
        rw [q, if_pos e2]
        exact lawS.trans _ _ _ h1 h2
      · rw [if_neg e2] at h2
        rw [q, if_neg e2]; exact h2
    · rw [if_neg e1] at h1
      by_cases e2 : cmpP y.pkg z.pkg = 0
      · have q := (lawP.zero _ _).1 e2
        rw [← q, if_neg e1]; exact h1
      · rw [if_neg e2] at h2
        have := lawP.trans _ _ _ h1 h2
        rw [if_neg (by omega)]; exact this
  rng := fun x y => by
    unfold cmpLab
    split
    · exact lawS.rng _ _
    · exact lawP.rng _ _ }
def ltLab (a b : Lab) : Bool := decide (cmpLab a b < 0)
/-! ### Plain: sorted lists of labels -/
theorem lt_irrefl (a : Lab) : ltLab a a = false := by simp [ltLab, (lawLab.zero a a).2 rfl]
theorem lt_trans {a b c : Lab} (h : ltLab a b = true) (h' : ltLab b c = true) : ltLab a c = true := by
  simp only [ltLab, decide_eq_true_eq] at *
  exact lawLab.trans _ _ _ h h'
theorem lt_tri (a b : Lab) : ltLab a b = true ∨ a = b ∨ ltLab b a = true := by
  simp only [ltLab, decide_eq_true_eq]
  have := lawLab.anti a b
  by_cases h : cmpLab a b = 0
  · exact .inr (.inl ((lawLab.zero _ _).1 h))
  · omega
theorem lt_asymm {a b : Lab} (h : ltLab a b = true) : ltLab b a = false := by
  simp only [ltLab, decide_eq_true_eq] at h
  have := lawLab.anti a b
  simp only [ltLab, decide_eq_false_iff_not]; omega
theorem not_lt_of {a b : Lab} (h : ltLab a b = false) (hne : a ≠ b) : ltLab b a = true := by
  rcases lt_tri a b with h1 | h1 | h1
  · rw [h] at h1; cases h1
  · exact absurd h1 hne
  · exact h1
def SortedL (l : List Lab) : Prop := l.Pairwise (fun a b => ltLab a b = true)
def insL (x : Lab) : List Lab → List Lab
  | [] => [x]
  | y :: r => if ltLab y x = true then y :: insL x r else if y = x then y :: r else x :: y :: r
def risingL (xs : List Lab) : List Lab := xs.foldl (fun acc x => insL x acc) []
theorem mem_insL (x a : Lab) : ∀ l, a ∈ insL x l ↔ a = x ∨ a ∈ l
  | [] => by simp [insL]
  | y :: r => by
    simp only [insL]
    split
    · simp only [List.mem_cons, mem_insL x a r]
      constructor
      · rintro (h | h | h)
        · exact .inr (.inl h)
        · exact .inl h
        · exact .inr (.inr h)
      · rintro (h | h | h)
        · exact .inr (.inl h)
        · exact .inl h
        · exact .inr (.inr h)
    · split
      · rename_i h; subst h; simp
      · simp
theorem sorted_insL (x : Lab) : ∀ l, SortedL l → SortedL (insL x l)
  | [], _ => by simp [insL, SortedL]
  | y :: r, h => by
    obtain ⟨h1, h2⟩ := List.pairwise_cons.1 h
    simp only [insL]
    split
    · rename_i hyx
      refine List.pairwise_cons.2 ⟨fun a ha => ?_, sorted_insL x r h2⟩
      rcases (mem_insL x a r).1 ha with rfl | ha
      · exact hyx
      · exact h1 a ha
    · rename_i hyx
      split
      · exact h
      · rename_i hne
        have hxy : ltLab x y = true := not_lt_of (by simpa using hyx) hne
        refine List.pairwise_cons.2 ⟨fun a ha => ?_, h⟩
        rcases List.mem_cons.1 ha with rfl | ha
        · exact hxy
        · exact lt_trans hxy (h1 a ha)
theorem rising_snoc (xs : List Lab) (x : Lab) : risingL (xs ++ [x]) = insL x (risingL xs) := by simp [risingL]
theorem rising_spec (xs : List Lab) : SortedL (risingL xs) ∧ ∀ a, a ∈ risingL xs ↔ a ∈ xs := by
  have : ∀ (l acc : List Lab), SortedL acc → SortedL (l.foldl (fun acc x => insL x acc) acc) ∧ ∀ a, a ∈ l.foldl (fun acc x => insL x acc) acc ↔ a ∈ acc ∨ a ∈ l := by
    intro l
    induction l with
    | nil => intro acc h; exact ⟨h, by simp⟩
    | cons x r ih =>
      intro acc h
      obtain ⟨h1, h2⟩ := ih (insL x acc) (sorted_insL x acc h)
      refine ⟨h1, fun a => ?_⟩
      rw [List.foldl_cons, h2, mem_insL, List.mem_cons]
      constructor
      · rintro ((h | h) | h)
        · exact .inr (.inl h)
        · exact .inl h
        · exact .inr (.inr h)
      · rintro (h | h | h)
        · exact .inl (.inr h)
        · exact .inl (.inl h)
        · exact .inr h
  obtain ⟨h1, h2⟩ := this xs [] (by simp [SortedL])
  exact ⟨h1, fun a => by rw [risingL, h2]; simp⟩
theorem sorted_unique : ∀ {l k : List Lab}, SortedL l → SortedL k → (∀ a, a ∈ l ↔ a ∈ k) → l = k
  | [], [], _, _, _ => rfl
  | [], b :: s, _, _, h => absurd ((h b).2 (by simp)) (by simp)
  | a :: r, [], _, _, h => absurd ((h a).1 (by simp)) (by simp)
  | a :: r, b :: s, h1, h2, h => by
    obtain ⟨ha, hr⟩ := List.pairwise_cons.1 h1
    obtain ⟨hb, hs⟩ := List.pairwise_cons.1 h2
    have e : a = b := by
      rcases List.mem_cons.1 ((h a).1 (by simp)) with h3 | h3
      · exact h3
      · rcases List.mem_cons.1 ((h b).2 (by simp)) with h4 | h4
        · exact h4.symm
        · have := lt_trans (hb a h3) (ha b h4)
          rw [lt_irrefl] at this; cases this
    subst e
    congr 1
    refine sorted_unique hr hs fun c => ⟨fun hc => ?_, fun hc => ?_⟩
    · rcases List.mem_cons.1 ((h c).1 (by simp [hc])) with h3 | h3
      · subst h3; have := ha c hc; rw [lt_irrefl] at this; cases this
      · exact h3
    · rcases List.mem_cons.1 ((h c).2 (by simp [hc])) with h3 | h3
      · subst h3; have := hb c hc; rw [lt_irrefl] at this; cases this
      · exact h3
theorem length_insL (x : Lab) : ∀ l, (insL x l).length ≤ l.length + 1
  | [] => by simp [insL]
  | y :: r => by
    have := length_insL x r
    simp only [insL]
    split
    · simp; omega
    · split <;> simp
theorem length_risingL (xs : List Lab) : (risingL xs).length ≤ xs.length := by
  have : ∀ (l acc : List Lab), (l.foldl (fun acc x => insL x acc) acc).length ≤ acc.length + l.length := by
    intro l
    induction l with
    | nil => intro acc; simp
    | cons x r ih =>
      intro acc
      have h1 := ih (insL x acc)
      have h2 := length_insL x acc
      simp only [List.foldl_cons, List.length_cons]; omega
  simpa [risingL] using this xs []
theorem ins_at (x : Lab) : ∀ (l : List Lab) (j : Nat), j ≤ l.length → (∀ t, t < j → ∀ y, l[t]? = some y → ltLab y x = true) → (∀ y, l[j]? = some y → ltLab y x = false) →
    insL x l = if l[j]? = some x then l else l.take j ++ x :: l.drop j
  | [], j, hj, _, _ => by simp at hj; subst hj; simp [insL]
  | y :: r, 0, _, _, h2 => by
    have := h2 y (by simp)
    simp only [insL, this, Bool.false_eq_true, if_false]
    by_cases hyx : y = x
    · simp [hyx]
    · simp [hyx]
  | y :: r, j + 1, hj, h1, h2 => by
    have hy := h1 0 (by omega) y (by simp)
    simp only [insL, hy, if_true]
    rw [ins_at x r j (by simpa using hj) (fun t ht z hz => h1 (t + 1) (by omega) z (by simpa using hz)) (fun z hz => h2 z (by simpa using hz))]
    simp only [List.getElem?_cons_succ, List.take_succ_cons, List.drop_succ_cons]
    split <;> simp
/-- The labels that come in are small. -/
def Sm (a : Lab) : Prop := a.pkg.size ≤ 1048576 ∧ a.nm.size ≤ 1048576
/-! ### Plain: who is reached -/
theorem nodup_sub_len {α : Type} [DecidableEq α] : ∀ (l k : List α), l.Nodup → (∀ a ∈ l, a ∈ k) → l.length ≤ k.length
  | [], _, _, _ => by simp
  | a :: r, k, hn, hs => by
    obtain ⟨h1, h2⟩ := List.nodup_cons.1 hn
    have hm : a ∈ k := hs a (by simp)
    have := nodup_sub_len r (k.erase a) h2 (fun b hb => by
      have hne : b ≠ a := fun e => h1 (e ▸ hb)
      exact (List.mem_erase_of_ne hne).2 (hs b (by simp [hb])))
    rw [List.length_erase_of_mem hm] at this
    have hp : 0 < k.length := List.length_pos_of_mem hm
    simp only [List.length_cons]; omega
inductive Rch (E : List (Lab × Lab)) (s : Lab → Prop) : Lab → Prop
  | base (a : Lab) : s a → Rch E s a
  | step (a b : Lab) : Rch E s a → (a, b) ∈ E → Rch E s b
theorem Rch.closed {E : List (Lab × Lab)} {s : Lab → Prop} {got : List Lab} (hb : ∀ a, s a → a ∈ got) (hc : ∀ a ∈ got, ∀ b, (a, b) ∈ E → b ∈ got) {a : Lab} (h : Rch E s a) : a ∈ got := by
  induction h with
  | base a h => exact hb a h
  | step a b _ he ih => exact hc a ih b he
end Go.Cw
/-
  RESOURCES HANDED ON: a callee that turns what its arguments lead to.
-/
set_option linter.unusedVariables false
set_option linter.unusedSectionVars false
set_option linter.unusedSimpArgs false
namespace Go.Cw

def fpU (H : List Res) : Nat → Prop := fun b => ∃ R ∈ H, R.fp b
/-- Memory that was not there when the call began. -/
abbrev newS (w0 : World) : Nat → Prop := fun b => w0.heap.size ≤ b

section
variable {w0 wc w w' : World} {S0 Sc : Nat → Prop} {H H0 H' : List Res}
theorem St.sub (h : St wc Sc w H) (k : Nat) : St w (fpU (H.take k)) w (H.take k) :=
  ⟨Keep.refl _ _, fun R hR => h.holds R (List.mem_of_mem_take hR), fun R hR b hb => .inr ⟨R, hR, hb⟩, List.Pairwise.sublist (List.take_sublist k H) h.disj⟩
theorem St.frame (h : St wc Sc w H) (k : Nat) (hH : H.take k = H0) (hc : St w (fpU H0) w' H') : St wc Sc w' (H' ++ H.drop k) := by
  subst hH
  have hp : (H.take k ++ H.drop k).Pairwise (fun R R' => ∀ b, R.fp b → ¬ R'.fp b) := by rw [List.take_append_drop]; exact h.disj
  have hd : ∀ R ∈ H.drop k, ∀ b, R.fp b → ¬ fpU (H.take k) b := fun R hR b hb ⟨R', hR', hb'⟩ => (List.pairwise_append.1 hp).2.2 R' hR' R hR b hb' hb
  have hsz : ∀ R ∈ H.drop k, ∀ b, R.fp b → b < w.heap.size := fun R hR b hb => R.old w (h.holds R (List.mem_of_mem_drop hR)) b hb
  refine ⟨⟨hc.keep.os.trans h.keep.os, hc.keep.tape.trans h.keep.tape, hc.keep.output.trans h.keep.output, Nat.le_trans h.keep.drawn hc.keep.drawn, Nat.le_trans h.keep.size hc.keep.size, fun b hb hn => ?_⟩, fun R hR => ?_, fun R hR b hb => ?_, ?_⟩
  · rw [hc.keep.block b (Nat.lt_of_lt_of_le hb h.keep.size) (fun ⟨R, hR, hfp⟩ => by
      rcases h.own R (List.mem_of_mem_take hR) b hfp with h1 | h1
      · omega
      · exact hn h1)]
    exact h.keep.block b hb hn
  · rcases List.mem_append.1 hR with h1 | h1
    · exact hc.holds R h1
    · exact R.loc w w' (h.holds R (List.mem_of_mem_drop h1)) fun b hb => hc.keep.block b (hsz R h1 b hb) (hd R h1 b hb)
  · rcases List.mem_append.1 hR with h1 | h1
    · rcases hc.own R h1 b hb with h2 | ⟨R', hR', hb'⟩
      · exact .inl (Nat.le_trans h.keep.size h2)
      · exact h.own R' (List.mem_of_mem_take hR') b hb'
    · exact h.own R (List.mem_of_mem_drop h1) b hb
  · refine List.pairwise_append.2 ⟨hc.disj, (List.pairwise_append.1 hp).2.1, fun R hR R' hR' b hb hb' => ?_⟩
    rcases hc.own R hR b hb with h2 | h2
    · have := hsz R' hR' b hb'; omega
    · exact hd R' hR' b hb' h2
theorem St.conv (h : St w0 S0 w H) (i : Nat) {R R' : Res} (hi : H[i]? = some R) (hR : R'.holds w) (hf : ∀ b, R'.fp b → R.fp b) : St w0 S0 w (H.set i R') :=
  h.turn i hi (Keep.refl _ _) hR (fun b hb => .inl (hf b hb))
/-- A contract of a callee that turns H0. -/
def T3 (P : Program) (f : FuncId) (args : List Value) (w : World) (H0 : List Res) (Post : Value → World → List Res → Prop) : Prop :=
  T2 P f args w (fpU H0) fun v w' => ∃ H', St w (fpU H0) w' H' ∧ Post v w' H'
end
section
variable {P : Program} {n : Nat} {B : Exit → Act → World → Prop} {ks : List KI} {e : Env} {w : World} {m : Bool} {S : Nat → Prop} {ops : Array Oper}
variable {Q : Exit → Act → World → Prop} {i : Nat} {o : Oper} {d : Nat} {l : List (Nat × Kd3)} {f : FuncId} {fn : Func} {args : List Operand} {at_ : Array TypeId} {vs : List Value} {Post : Value → World → List Res → Prop}
theorem KW.enterT3 {f : FuncId} {fn : Func} {c : Code} {args : List Value} {H0 : List Res}
    (hf : P.funcs[f]? = some fn) (hb : fn.body = some c) (hn : fn.ntmps = n) (hl : Nat.ble args.length n = true)
    (h : CW P n c (post P (bodyPost P fn fun en w' => ∃ v, en = .returned v ∧ Keep (fpU H0) w w' ∧ ∃ H', St w (fpU H0) w' H' ∧ Post v w' H') []) (argsE args 0) w) : T3 P f args w H0 Post := calls_of_CW hf hb hn hl h
theorem EW.callT3 {wc : World} {Sc : Nat → Prop} {H : List Res} (hs : St wc Sc w H) (k : Nat) (hc : T3 P f vs w (H.take k) Post) (ho : ops[i]? = some o) (hop : o.op = .call { callee := .value (.func f), args := args.toArray, argTypes := at_ }) (hg : wantedE ops e o = some true) (hd : o.dst = some d) (hdn : Nat.blt d n = true)
    (hf : P.funcs[f]? = some fn) (hfb : fn.body.isNone = false) (hfn : (fn.name == "runtime.NumGoroutine") = false) (ha : evs e args = some vs) (hS : m = true ∨ ∀ b, fpU (H.take k) b → S b)
    (h : ∀ v w' H', St wc Sc w' (H' ++ H.drop k) → St w (fpU (H.take k)) w' H' → Post v w' H' → EW P m S n ops Q l ((d, v) :: e) w') : EW P m S n ops Q ((i, .l) :: l) e w :=
  EW.callT2 hc ho hop hg hd hdn hf hfb hfn ha hS fun v w' hk ⟨H', hst, hp⟩ => h v w' H' (hs.frame k rfl hst) hst hp
theorem EW.build {α : Type} {t : TypeId} {parts : List (Nat × Operand)} {pv : List (Nat × Value)} {v : Value} (ho : ops[i]? = some o) (hop : o.op = .build t parts.toArray) (hg : wantedE ops e o = some true) (hd : o.dst = some d) (hdn : Nat.blt d n = true) (hps : evs e (parts.map (·.2)) = some (pv.map (·.2))) (hpi : parts.map (·.1) = pv.map (·.1)) (hv : ∀ w, (Instr.build t pv.toArray).run P w = .ok v w)
    (h : EW P m S n ops Q l ((d, v) :: e) w) : EW P m S n ops Q ((i, .q) :: l) e w :=
  EW.q ho hg hd hdn (fun a ha w' _ => by
    have h1 := ha.evals hps
    have h2 : parts.map (fun p => (p.1, a.eval p.2)) = pv := by
      have gen : ∀ (ps : List (Nat × Operand)) (qs : List (Nat × Value)), (ps.map (·.2)).map a.eval = qs.map (·.2) → ps.map (·.1) = qs.map (·.1) → ps.map (fun p => (p.1, a.eval p.2)) = qs := by
        intro ps
        induction ps with
        | nil => intro qs h _; cases qs with
          | nil => rfl
          | cons q r => simp at h
        | cons p r ih =>
          intro qs h h'
          cases qs with
          | nil => simp at h
          | cons q s =>
            simp only [List.map_cons, List.cons.injEq] at h h' ⊢
            exact ⟨Prod.ext h'.1 h.1, ih s h.2 h'.2⟩
      exact gen parts pv h1 hpi
    simp only [Qt, execOp, hop, List.map_toArray, h2]
    rw [Sem.run_bind, hv w']; rfl) h
theorem St.apart {w0 w : World} {S0 : Nat → Prop} {H : List Res} {R R' : Res} (h : St w0 S0 w H) (i j : Nat) (hij : Nat.blt i j = true) (hi : H[i]? = some R) (hj : H[j]? = some R') : ∀ b, R.fp b → ¬ R'.fp b := by
  obtain ⟨hil, hie⟩ := List.getElem?_eq_some_iff.1 hi
  obtain ⟨hjl, hje⟩ := List.getElem?_eq_some_iff.1 hj
  intro b hb hb'
  exact List.pairwise_iff_getElem.1 h.disj i j hil hjl (by simpa [Nat.blt_eq] using hij) b (by rw [hie]; exact hb) (by rw [hje]; exact hb')
theorem St.newS {w0 w : World} {H : List Res} {R : Res} (h : St w0 noS w H) (k : Nat) (hk : H[k]? = some R) : ∀ b, R.fp b → w0.heap.size ≤ b := fun b hb => (h.own R (List.mem_of_getElem? hk) b hb).resolve_right (fun x => x)
theorem EW.fieldAddrA {x : Operand} {t : TypeId} {f off : Nat} {p : Addr} (ho : ops[i]? = some o) (hop : o.op = .fieldAddr t x f) (hg : wantedE ops e o = some true) (hd : o.dst = some d) (hdn : Nat.blt d n = true) (hx : ev e x = some (.pointer (some p))) [hf : Fld P t f off]
    (h : EW P m S n ops Q l ((d, .pointer (some (p.add off))) :: e) w) : EW P m S n ops Q ((i, .q) :: l) e w :=
  EW.q ho hg hd hdn (fun a ha w' _ => by simp [Qt, execOp, hop, ha.eval hx, hf.at_]) h
theorem SlA.at_part {α β : Type} {E : El P α} {E' : El P β} {A : Option Addr} {xs : List α} (h : SlA E w A xs) {k : Nat} {x : α} (hx : xs[k]? = some x) (off : Nat) (y : β) (hsub : ∀ (j : Nat) (u : Value), (E'.enc y).cells.toList[j]? = some u → (E.enc x).cells.toList[off + j]? = some u) {ad : Addr} (hA : A = some ad) :
    LDP P w E'.ty ((ad.add (k * E.size)).add off) (E'.enc y) := by
  obtain ⟨ad', hA', hb⟩ := h.some_ (by intro hn; subst hn; simp at hx)
  rw [hA] at hA'; injection hA' with hA'; subst hA'
  refine ⟨by rw [add_block, add_block]; exact hb, fun w' hw => E'.ld w' _ y fun j u hu => ?_⟩
  rw [add_block, add_block] at hw
  have hc := h.cell ad hA (k * E.size + (off + j)) u (flat_get E hx (hsub j u hu))
  rw [add_add, add_add, ← hc]
  refine World.cell?_of_block ?_
  rw [add_block]; exact hw
/-- append(s, ys...), ys empty or not. -/
theorem EW.appendAny {α : Type} {w0 : World} {S0 : Nat → Prop} {H : List Res} {v : Value} (E : El P α) (k : Nat) {xs ys : List α} (hs : St w0 S0 w H) (hk : H[k]? = some (own E v xs)) {s x : Operand} {t : TypeId} {A : Option Addr} {c : Nat} [ht : SlT P t E.ty]
    (hy : SlA E w A ys) (hlen : (xs.length + ys.length) * E.bytes ≤ 140737488355328) (hS : m = true ∨ ∀ b, v.ownBlock = some b → S b)
    (ho : ops[i]? = some o) (hop : o.op = .call { callee := .builtin .append, args := #[s, x], argTypes := #[t, t] }) (hg : wantedE ops e o = some true) (hd : o.dst = some d) (hdn : Nat.blt d n = true) (hsv : ev e s = some v) (hx : ev e x = some (.slice A ys.length c))
    (h : ∀ v' w', St w0 S0 w' (H.set k (own E v' (xs ++ ys))) → EW P m S n ops Q l ((d, v') :: e) w') : EW P m S n ops Q ((i, .l) :: l) e w := by
  cases hys : ys with
  | cons y r =>
    obtain ⟨ad, hA, _⟩ := hy.some_ (by rw [hys]; simp)
    subst hA
    exact EW.append E k hs hk hy hlen hS ho hop hg hd hdn hsv hx h
  | nil =>
    subst hys
    obtain ⟨A', c', he, _, hc, _⟩ := own_sl (hs.res k hk)
    have hset : H.set k (own E v (xs ++ [])) = H := by
      rw [List.append_nil]
      apply List.ext_getElem?
      intro j
      by_cases hj : j = k
      · subst hj
        rw [List.getElem?_set_self (List.getElem?_eq_some_iff.1 hk).1, hk]
      · rw [List.getElem?_set_ne (Ne.symm hj)]
    refine EW.lv ho hg hd hdn (fun a ha => ?_) (dl_of (Keep.refl _ w)) (h v w (by rw [hset]; exact hs))
    obtain ⟨inf, hi, hzz⟩ := Option.map_eq_some_iff.1 E.info
    subst he
    have hf : ∀ sz, (Builtin.firstCells sz 0 (.slice A 0 c)).run P w = .ok #[] w := by
      intro sz; cases A <;> simp [Builtin.firstCells, loadCells, loadCellsFrom]
    simp only [execOp, hop, resolve, invoke, builtin, Sem.run_bind, Sem.run_pure, Result.andThen_ok, List.map_toArray, List.map_cons, List.map_nil, ha.eval hsv, ha.eval hx, List.length_nil]
    have hrun : (Builtin.append_ #[t, t] o.type #[.slice A' xs.length c', .slice A 0 c]).run P w = .ok (.slice A' xs.length c') w := by
      cases A' <;> simp [Builtin.append_, run_underlying ht.u, sizeOf, typeInfo, hi, Builtin.lenOf, hc, hf, storeCells]
    rw [hrun]; rfl
end
end Go.Cw
/-
  SLICES OF SLICES: the outer row holds slice values; the inner rows together are one resource.
-/
set_option linter.unusedVariables false
set_option linter.unusedSectionVars false
set_option linter.unusedSimpArgs false
namespace Go.Cw

/-- A slice's value. -/
abbrev SV := Option Addr × Nat × Nat
def svV (s : SV) : Value := .slice s.1 s.2.1 s.2.2

section
variable {P : Program} {α : Type}
def rows (E : El P α) (ps : List (SV × List α)) : Res := {
  fp := fun b => ∃ p ∈ ps, (svV p.1).ownBlock = some b
  holds := fun w => (∀ p ∈ ps, (own E (svV p.1) p.2).holds w) ∧ ps.Pairwise fun (p q : SV × List α) => ∀ b, (svV p.1).ownBlock = some b → (svV q.1).ownBlock ≠ some b
  loc := fun w w' h hb => ⟨fun p hp => (own E (svV p.1) p.2).loc w w' (h.1 p hp) fun b hfp => hb b ⟨p, hp, hfp⟩, h.2⟩
  old := fun w h b ⟨p, hp, hfp⟩ => (own E (svV p.1) p.2).old w (h.1 p hp) b hfp }

variable {w0 w w' wc : World} {S0 Sc : Nat → Prop} {H H' : List Res} {E : El P α}
theorem St.rowsNil (E : El P α) (h : St w0 S0 w H) : St w0 S0 w (rows E [] :: H) :=
  h.add (Keep.refl _ _) ⟨by simp, by simp⟩ (fun b ⟨p, hp, _⟩ => by simp at hp)
theorem St.rowAdd {ps : List (SV × List α)} {s : SV} {xs : List α} (h : St w0 S0 w (rows E ps :: Cw.own E (svV s) xs :: H)) : St w0 S0 w (rows E (ps ++ [(s, xs)]) :: H) := by
  obtain ⟨hd1, hd2⟩ := List.pairwise_cons.1 h.disj
  obtain ⟨hd3, hd4⟩ := List.pairwise_cons.1 hd2
  have hr : (rows E ps).holds w := h.holds _ (by simp)
  have ho : (Cw.own E (svV s) xs).holds w := h.holds _ (by simp)
  refine ⟨h.keep, fun R hR => ?_, fun R hR b hb => ?_, List.pairwise_cons.2 ⟨fun R hR b hb => ?_, hd4⟩⟩
  · rcases List.mem_cons.1 hR with rfl | hm
    · refine ⟨fun p hp => ?_, List.pairwise_append.2 ⟨hr.2, by simp, fun p hp q hq b hb hb' => ?_⟩⟩
      · rcases List.mem_append.1 hp with h1 | h1
        · exact hr.1 p h1
        · rw [List.mem_singleton.1 h1]; exact ho
      · rw [List.mem_singleton.1 hq] at hb'
        exact hd1 (Cw.own E (svV s) xs) (by simp) b ⟨p, hp, hb⟩ hb'
    · exact h.holds R (by simp [hm])
  · rcases List.mem_cons.1 hR with rfl | hm
    · obtain ⟨p, hp, hfp⟩ := hb
      rcases List.mem_append.1 hp with h1 | h1
      · exact h.own (rows E ps) (by simp) b ⟨p, h1, hfp⟩
      · rw [List.mem_singleton.1 h1] at hfp
        exact h.own (Cw.own E (svV s) xs) (by simp) b hfp
    · exact h.own R (by simp [hm]) b hb
  · obtain ⟨p, hp, hfp⟩ := hb
    rcases List.mem_append.1 hp with h1 | h1
    · exact hd1 R (by simp [hR]) b ⟨p, h1, hfp⟩
    · rw [List.mem_singleton.1 h1] at hfp
      exact hd3 R hR b hfp
theorem rows_get {ps : List (SV × List α)} (h : (rows E ps).holds w) {i : Nat} {p : SV × List α} (hi : ps[i]? = some p) : (Cw.own E (svV p.1) p.2).holds w := h.1 p (List.mem_of_getElem? hi)
/-- One row alone; the others are forgotten. -/
theorem St.rowOut {ps : List (SV × List α)} (h : St w0 S0 w (rows E ps :: H)) {i : Nat} {p : SV × List α} (hi : ps[i]? = some p) : St w0 S0 w (Cw.own E (svV p.1) p.2 :: H) := by
  obtain ⟨hd1, hd2⟩ := List.pairwise_cons.1 h.disj
  have hr : (rows E ps).holds w := h.holds _ (by simp)
  have hm := List.mem_of_getElem? hi
  refine ⟨h.keep, fun R hR => ?_, fun R hR b hb => ?_, List.pairwise_cons.2 ⟨fun R hR b hb => hd1 R hR b ⟨p, hm, hb⟩, hd2⟩⟩
  · rcases List.mem_cons.1 hR with rfl | hm'
    · exact hr.1 p hm
    · exact h.holds R (by simp [hm'])
  · rcases List.mem_cons.1 hR with rfl | hm'
    · exact h.own (rows E ps) (by simp) b ⟨p, hm, hb⟩
    · exact h.own R (by simp [hm']) b hb
theorem St.rowSl {ps : List (SV × List α)} (h : St w0 S0 w H) (k : Nat) (hk : H[k]? = some (rows E ps)) {i : Nat} {p : SV × List α} (hi : ps[i]? = some p) : SlA E w p.1.1 p.2 ∧ p.1.2.1 = p.2.length ∧ p.1.2.1 ≤ p.1.2.2 := by
  have := own_slA (rows_get (h.res k hk) hi)
  exact ⟨this.1, this.2.1, this.2.2.1⟩
/-- What a callee answers in new memory. -/
theorem St.plus (h : St wc Sc w H) (hc : St w noS w' H') : St wc Sc w' (H' ++ H) := by
  have := h.frame 0 (H0 := []) (H' := H') (w' := w') rfl ⟨hc.keep.any, hc.holds, fun R hR b hb => .inl ((hc.own R hR b hb).resolve_right (fun x => x)), hc.disj⟩
  simpa using this
theorem Fresh.st {v : Value} {xs : List α} (h : Fresh E w w' v xs) (hk : Keep noS w w') : St w noS w' [Cw.own E v xs] :=
  ⟨hk, fun R hR => by simp at hR; subst hR; exact h.own, fun R hR b hb => by simp at hR; subst hR; exact .inl (h.new b hb), by simp⟩

theorem St.rowPerm {ps qs : List (SV × List α)} (h : St w0 S0 w (rows E ps :: H)) (hp : ps.Perm qs) : St w0 S0 w (rows E qs :: H) := by
  have hr : (rows E ps).holds w := h.holds _ (by simp)
  refine h.conv 0 (R := rows E ps) (R' := rows E qs) rfl ⟨fun p hpm => hr.1 p (hp.mem_iff.2 hpm), ?_⟩ fun b ⟨p, hpm, hb⟩ => ⟨p, hp.mem_iff.2 hpm, hb⟩
  exact (hp.pairwise_iff (fun {x y} hxy b hb hb' => hxy b hb' hb)).1 hr.2
theorem St.rowCons {p : SV × List α} {ps : List (SV × List α)} (h : St w0 S0 w (rows E (p :: ps) :: H)) : St w0 S0 w (Cw.own E (svV p.1) p.2 :: rows E ps :: H) := by
  obtain ⟨hd1, hd2⟩ := List.pairwise_cons.1 h.disj
  have hr : (rows E (p :: ps)).holds w := h.holds _ (by simp)
  obtain ⟨hp1, hp2⟩ := List.pairwise_cons.1 hr.2
  refine ⟨h.keep, fun R hR => ?_, fun R hR b hb => ?_, List.pairwise_cons.2 ⟨fun R hR b hb hb' => ?_, List.pairwise_cons.2 ⟨fun R hR b ⟨q, hq, hb⟩ => hd1 R hR b ⟨q, by simp [hq], hb⟩, hd2⟩⟩⟩
  · rcases List.mem_cons.1 hR with rfl | hm
    · exact hr.1 p (by simp)
    · rcases List.mem_cons.1 hm with rfl | hm
      · exact ⟨fun q hq => hr.1 q (by simp [hq]), hp2⟩
      · exact h.holds R (by simp [hm])
  · rcases List.mem_cons.1 hR with rfl | hm
    · exact h.own (rows E (p :: ps)) (by simp) b ⟨p, by simp, hb⟩
    · rcases List.mem_cons.1 hm with rfl | hm
      · obtain ⟨q, hq, hb⟩ := hb
        exact h.own (rows E (p :: ps)) (by simp) b ⟨q, by simp [hq], hb⟩
      · exact h.own R (by simp [hm]) b hb
  · rcases List.mem_cons.1 hR with rfl | hm
    · obtain ⟨q, hq, hb'⟩ := hb'
      exact hp1 q hq b hb hb'
    · exact hd1 R hm b ⟨p, by simp, hb⟩ hb'
theorem perm_erase {β : Type} : ∀ (l : List β) (i : Nat) (x : β), l[i]? = some x → l.Perm (x :: l.eraseIdx i)
  | [], i, x, h => by simp at h
  | y :: r, 0, x, h => by simp at h; subst h; exact List.Perm.refl _
  | y :: r, i + 1, x, h => by
    rw [List.eraseIdx_cons_succ]
    exact ((perm_erase r i x (by simpa using h)).cons y).trans (List.Perm.swap x y _)
theorem perm_set {β : Type} : ∀ (l : List β) (i : Nat) (x : β), i < l.length → (l.eraseIdx i ++ [x]).Perm (l.set i x) := fun l i x h => by
  have h1 := perm_erase (l.set i x) i x (by simp [h])
  have e : (l.set i x).eraseIdx i = l.eraseIdx i := by
    rw [List.eraseIdx_set_eq]
  rw [e] at h1
  exact (List.perm_append_singleton x _).trans h1.symm
theorem St.rowTake {ps : List (SV × List α)} (h : St w0 S0 w (rows E ps :: H)) {i : Nat} {p : SV × List α} (hi : ps[i]? = some p) : St w0 S0 w (Cw.own E (svV p.1) p.2 :: rows E (ps.eraseIdx i) :: H) :=
  (h.rowPerm (perm_erase ps i p hi)).rowCons
theorem St.rowPut {ps : List (SV × List α)} {s : SV} {xs : List α} {i : Nat} (h : St w0 S0 w (rows E (ps.eraseIdx i) :: Cw.own E (svV s) xs :: H)) (hi : i < ps.length) : St w0 S0 w (rows E (ps.set i (s, xs)) :: H) :=
  h.rowAdd.rowPerm (perm_set ps i _ hi)
end
end Go.Cw
/-
  PLAIN: what the strongest parts of a graph are; they are fixed by that. No program.
-/
namespace Go.Cw

/-- b is reached from a. -/
def Rc (E : List (Lab × Lab)) (a b : Lab) : Prop := Rch E (fun x => x = a) b
theorem Rc.refl (E : List (Lab × Lab)) (a : Lab) : Rc E a a := .base a rfl
theorem Rc.step {E : List (Lab × Lab)} {a b c : Lab} (h : Rc E a b) (he : (b, c) ∈ E) : Rc E a c := Rch.step b c h he
theorem Rc.trans {E : List (Lab × Lab)} {a b c : Lab} (h : Rc E a b) (h' : Rc E b c) : Rc E a c := by
  unfold Rc at h'
  induction h' with
  | base x hx => subst hx; exact h
  | step x y _ he ih => exact ih.step he
theorem Rc.one {E : List (Lab × Lab)} {a b : Lab} (he : (a, b) ∈ E) : Rc E a b := (Rc.refl E a).step he
theorem Rc.back {E : List (Lab × Lab)} {a b : Lab} (h : Rc E a b) : Rc (E.map fun e => (e.2, e.1)) b a := by
  unfold Rc at h
  induction h with
  | base x hx => subst hx; exact Rc.refl _ _
  | step x y _ he ih => exact Rc.trans (Rc.one (List.mem_map.2 ⟨(x, y), he, rfl⟩)) ih
theorem Rc.unback {E : List (Lab × Lab)} {a b : Lab} (h : Rc (E.map fun e => (e.2, e.1)) b a) : Rc E a b := by
  have := h.back
  simpa [List.map_map, Function.comp_def] using this

structure IsParts (N : List Lab) (E : List (Lab × Lab)) (xss : List (List Lab)) : Prop where
  sorted : ∀ p ∈ xss, SortedL p
  ne : ∀ p ∈ xss, p ≠ []
  order : xss.Pairwise fun p q => ∀ a ∈ p.head?, ∀ b ∈ q.head?, ltLab a b = true
  all : ∀ a, a ∈ N ↔ ∃ p ∈ xss, a ∈ p
  cls : ∀ p ∈ xss, ∀ a ∈ p, ∀ b, b ∈ p ↔ Rc E a b ∧ Rc E b a

theorem part_eq {N : List Lab} {E : List (Lab × Lab)} {xss yss : List (List Lab)} (h : IsParts N E xss) (k : IsParts N E yss) {p q : List Lab} (hp : p ∈ xss) (hq : q ∈ yss) {a : Lab} (ha : a ∈ p) (hb : a ∈ q) : p = q :=
  sorted_unique (h.sorted p hp) (k.sorted q hq) fun b => by rw [h.cls p hp a ha b, k.cls q hq a hb b]
theorem parts_sub {N : List Lab} {E : List (Lab × Lab)} {xss yss : List (List Lab)} (h : IsParts N E xss) (k : IsParts N E yss) : ∀ p ∈ xss, p ∈ yss := fun p hp => by
  cases hpe : p with
  | nil => exact absurd hpe (h.ne p hp)
  | cons a r =>
    have ha : a ∈ p := by rw [hpe]; simp
    obtain ⟨q, hq, haq⟩ := (k.all a).1 ((h.all a).2 ⟨p, hp, ha⟩)
    rw [← hpe, part_eq h k hp hq ha haq]; exact hq
theorem heads_unique : ∀ {l k : List (List Lab)}, (∀ p ∈ l, p ≠ []) → (∀ p ∈ k, p ≠ []) → (l.Pairwise fun p q => ∀ a ∈ p.head?, ∀ b ∈ q.head?, ltLab a b = true) → (k.Pairwise fun p q => ∀ a ∈ p.head?, ∀ b ∈ q.head?, ltLab a b = true) → (∀ a, a ∈ l ↔ a ∈ k) → l = k
  | [], [], _, _, _, _, _ => rfl
  | [], b :: s, _, _, _, _, h => absurd ((h b).2 (by simp)) (by simp)
  | a :: r, [], _, _, _, _, h => absurd ((h a).1 (by simp)) (by simp)
  | a :: r, b :: s, n1, n2, h1, h2, h => by
    obtain ⟨ha, hr⟩ := List.pairwise_cons.1 h1
    obtain ⟨hb, hs⟩ := List.pairwise_cons.1 h2
    have irr : ∀ p : List Lab, p ≠ [] → ¬ (∀ a ∈ p.head?, ∀ b ∈ p.head?, ltLab a b = true) := fun p hp hh => by
      cases p with
      | nil => exact hp rfl
      | cons x t =>
        have := hh x (by simp) x (by simp)
        rw [lt_irrefl] at this; cases this
    have asym : ∀ p q : List Lab, p ≠ [] → q ≠ [] → (∀ a ∈ p.head?, ∀ b ∈ q.head?, ltLab a b = true) → (∀ a ∈ q.head?, ∀ b ∈ p.head?, ltLab a b = true) → False := fun p q hp hq h1 h2 => by
      cases p with
      | nil => exact hp rfl
      | cons x t => cases q with
        | nil => exact hq rfl
        | cons y u =>
          have a1 := h1 x (by simp) y (by simp)
          have a2 := h2 y (by simp) x (by simp)
          rw [lt_asymm a1] at a2; cases a2
    have e : a = b := by
      rcases List.mem_cons.1 ((h a).1 (by simp)) with h3 | h3
      · exact h3
      · rcases List.mem_cons.1 ((h b).2 (by simp)) with h4 | h4
        · exact h4.symm
        · exact (asym a b (n1 a (by simp)) (n2 b (by simp)) (ha b h4) (hb a h3)).elim
    subst e
    congr 1
    refine heads_unique (fun p hp => n1 p (by simp [hp])) (fun p hp => n2 p (by simp [hp])) hr hs fun c => ⟨fun hc => ?_, fun hc => ?_⟩
    · rcases List.mem_cons.1 ((h c).1 (by simp [hc])) with h3 | h3
      · subst h3; exact (irr c (n1 c (by simp)) (ha c hc)).elim
      · exact h3
    · rcases List.mem_cons.1 ((h c).2 (by simp [hc])) with h3 | h3
      · subst h3; exact (irr c (n1 c (by simp)) (hb c hc)).elim
      · exact h3
theorem parts_unique {N : List Lab} {E : List (Lab × Lab)} {xss yss : List (List Lab)} (h : IsParts N E xss) (k : IsParts N E yss) : xss = yss :=
  heads_unique h.ne k.ne h.order k.order fun p => ⟨parts_sub h k p, parts_sub k h p⟩
theorem IsParts.same {N N' : List Lab} {E E' : List (Lab × Lab)} {xss : List (List Lab)} (h : IsParts N E xss) (hn : ∀ a, a ∈ N ↔ a ∈ N') (he : ∀ a b, Rc E a b ↔ Rc E' a b) : IsParts N' E' xss :=
  ⟨h.sorted, h.ne, h.order, fun a => by rw [← hn, h.all], fun p hp a ha b => by rw [h.cls p hp a ha b, he, he]⟩
theorem rc_same {E E' : List (Lab × Lab)} (h : ∀ e, e ∈ E → e ∈ E') {a b : Lab} (r : Rc E a b) : Rc E' a b := by
  unfold Rc at r
  induction r with
  | base x hx => subst hx; exact Rc.refl _ _
  | step x y _ he ih => exact ih.step (h _ he)

/-! ### The reference's way: node by node -/
/-- The state behind the first nodes 'seen' (rising). -/
structure PartsUpTo (E : List (Lab × Lab)) (seen : List Lab) (xss : List (List Lab)) : Prop where
  sorted : ∀ p ∈ xss, SortedL p
  ne : ∀ p ∈ xss, p ≠ []
  order : xss.Pairwise fun p q => ∀ a ∈ p.head?, ∀ b ∈ q.head?, ltLab a b = true
  heads : ∀ p ∈ xss, ∀ a ∈ p.head?, a ∈ seen
  cov : ∀ a ∈ seen, ∃ p ∈ xss, a ∈ p
  cls : ∀ p ∈ xss, ∀ a ∈ p, ∀ b, b ∈ p ↔ Rc E a b ∧ Rc E b a
theorem PartsUpTo.nil (E : List (Lab × Lab)) : PartsUpTo E [] [] := ⟨by simp, by simp, by simp, by simp, by simp, by simp⟩
theorem PartsUpTo.skip {E : List (Lab × Lab)} {seen : List Lab} {xss : List (List Lab)} (h : PartsUpTo E seen xss) {x : Lab} (hx : ∃ p ∈ xss, x ∈ p) : PartsUpTo E (seen ++ [x]) xss :=
  ⟨h.sorted, h.ne, h.order, fun p hp a ha => by simp [h.heads p hp a ha], fun a ha => by
    rcases List.mem_append.1 ha with h1 | h1
    · exact h.cov a h1
    · rw [List.mem_singleton.1 h1]; exact hx, h.cls⟩
theorem PartsUpTo.add {E : List (Lab × Lab)} {seen : List Lab} {xss : List (List Lab)} (h : PartsUpTo E seen xss) {x : Lab} (hx : ¬ ∃ p ∈ xss, x ∈ p) (hs : ∀ a ∈ seen, ltLab a x = true) {rest : List Lab} (hr : ∀ a ∈ rest, ltLab x a = true)
    {part : List Lab} (hp : SortedL part) (hm : ∀ b, b ∈ part ↔ Rc E x b ∧ Rc E b x) (hin : ∀ b ∈ part, b ∈ seen ∨ b = x ∨ b ∈ rest) : PartsUpTo E (seen ++ [x]) (xss ++ [part]) := by
  have hxp : x ∈ part := (hm x).2 ⟨Rc.refl _ _, Rc.refl _ _⟩
  have hnot : ∀ b ∈ part, b ∉ seen := fun b hb hbs => by
    obtain ⟨q, hq, hbq⟩ := h.cov b hbs
    have := (hm b).1 hb
    exact hx ⟨q, hq, (h.cls q hq b hbq x).2 ⟨this.2, this.1⟩⟩
  have hhead : ∀ a ∈ part.head?, a = x := fun a ha => by
    cases part with
    | nil => simp at ha
    | cons y t =>
      simp at ha; subst ha
      rcases hin y (by simp) with h1 | h1 | h1
      · exact absurd h1 (hnot y (by simp))
      · exact h1
      · rcases List.mem_cons.1 hxp with h2 | h2
        · exact h2.symm
        · have a1 := (List.pairwise_cons.1 hp).1 x h2
          have a2 := hr y h1
          rw [lt_asymm a1] at a2; cases a2
  refine ⟨fun p hpp => ?_, fun p hpp => ?_, ?_, fun p hpp a ha => ?_, fun a ha => ?_, fun p hpp a ha b => ?_⟩
  · rcases List.mem_append.1 hpp with h1 | h1
    · exact h.sorted p h1
    · rw [List.mem_singleton.1 h1]; exact hp
  · rcases List.mem_append.1 hpp with h1 | h1
    · exact h.ne p h1
    · rw [List.mem_singleton.1 h1]; intro e; rw [e] at hxp; simp at hxp
  · refine List.pairwise_append.2 ⟨h.order, by simp, fun p hpp q hqq a ha b hb => ?_⟩
    rw [List.mem_singleton.1 hqq] at hb
    rw [hhead b hb]
    exact hs a (h.heads p hpp a ha)
  · rcases List.mem_append.1 hpp with h1 | h1
    · simp [h.heads p h1 a ha]
    · rw [List.mem_singleton.1 h1] at ha
      simp [hhead a ha]
  · rcases List.mem_append.1 ha with h1 | h1
    · obtain ⟨p, hp1, hp2⟩ := h.cov a h1
      exact ⟨p, by simp [hp1], hp2⟩
    · rw [List.mem_singleton.1 h1]; exact ⟨part, by simp, hxp⟩
  · rcases List.mem_append.1 hpp with h1 | h1
    · exact h.cls p h1 a ha b
    · have e := List.mem_singleton.1 h1
      subst e
      have h2 := (hm a).1 ha
      rw [hm b]
      exact ⟨fun h3 => ⟨h2.2.trans h3.1, h3.2.trans h2.1⟩, fun h3 => ⟨h2.1.trans h3.1, h3.2.trans h2.2⟩⟩
theorem PartsUpTo.parts {N : List Lab} {E : List (Lab × Lab)} {seen : List Lab} {xss : List (List Lab)} (h : PartsUpTo E seen xss) (hs : ∀ a, a ∈ N ↔ a ∈ seen) (hw : ∀ e ∈ E, e.1 ∈ N ∧ e.2 ∈ N) : IsParts N E xss :=
  ⟨h.sorted, h.ne, h.order, fun a => ⟨fun ha => h.cov a ((hs a).1 ha), fun ⟨p, hp, ha⟩ => by
    cases hpe : p with
    | nil => exact absurd hpe (h.ne p hp)
    | cons y t =>
      have hy : y ∈ N := (hs y).2 (h.heads p hp y (by rw [hpe]; simp))
      have hr := ((h.cls p hp y (by rw [hpe]; simp) a).1 ha).1
      cases hr with
      | base x hx => rw [hx]; exact hy
      | step x z _ he => exact (hw _ he).2⟩, h.cls⟩
end Go.Cw
/-
  MAPS AS RESOURCES: keys of any kind whose equality is told in one world.
-/
set_option linter.unusedVariables false
set_option linter.unusedSectionVars false
set_option linter.unusedSimpArgs false
namespace Go.Cw
open Go.Instr

structure KeyT (P : Program) (κ : Type) [DecidableEq κ] where
  ty : TypeId
  enc : κ → Value
  check : ∀ e a w, (checkKey e 10000 ty (enc a)).run P w = .ok () w
  und : ∃ td, P.underlying ty = some td ∧ ∀ v v', sameNow td v v' = none
  eqv : ∀ a b w, (Op.equal ty (enc a) (enc b)).run P w = .ok (decide (a = b)) w
  bits : ∀ a, sameBits 10000 (enc a) (enc a) = true

section
variable {κ : Type} [DecidableEq κ]
def ixM : List (κ × Value) → κ → Nat → Option (Nat × Value)
  | [], _, _ => none
  | p :: r, a, i => if a = p.1 then some (i, p.2) else ixM r a (i + 1)
def getM : List (κ × Value) → κ → Option Value
  | [], _ => none
  | p :: r, a => if a = p.1 then some p.2 else getM r a
def setM : List (κ × Value) → κ → Value → List (κ × Value)
  | [], a, v => [(a, v)]
  | p :: r, a, v => if a = p.1 then (a, v) :: r else p :: setM r a v
theorem ixM_get (a : κ) : ∀ (l : List (κ × Value)) (i : Nat), (ixM l a i).map (·.2) = getM l a
  | [], _ => rfl
  | p :: r, i => by
    simp only [ixM, getM]
    split
    · rfl
    · exact ixM_get a r (i + 1)
theorem ixM_set (a : κ) (v : Value) : ∀ (l : List (κ × Value)) (s : Nat), (∀ i x, ixM l a s = some (i, x) → s ≤ i ∧ setM l a v = l.set (i - s) (a, v) ∧ ∃ y, l[i - s]? = some (a, y)) ∧ (ixM l a s = none → setM l a v = l ++ [(a, v)])
  | [], s => ⟨fun i x h => by simp [ixM] at h, fun _ => rfl⟩
  | p :: r, s => by
    obtain ⟨h1, h2⟩ := ixM_set a v r (s + 1)
    simp only [ixM, setM]
    by_cases hp : a = p.1
    · simp only [if_pos hp]
      refine ⟨fun i x h => ?_, fun h => by cases h⟩
      injection h with h; injection h with h h'; subst h
      refine ⟨Nat.le_refl _, by simp, p.2, ?_⟩
      rw [Nat.sub_self, List.getElem?_cons_zero, hp]
    · simp only [if_neg hp]
      refine ⟨fun i x h => ?_, fun h => by rw [h2 h]; rfl⟩
      obtain ⟨h3, h4, h5⟩ := h1 i x h
      have e : i - s = (i - (s + 1)) + 1 := by omega
      rw [e]
      exact ⟨by omega, by rw [h4]; rfl, h5⟩
theorem getM_set (a b : κ) (v : Value) : ∀ l : List (κ × Value), getM (setM l a v) b = if b = a then some v else getM l b
  | [] => by simp only [setM, getM]
  | p :: r => by
    simp only [setM]
    by_cases hp : a = p.1
    · rw [if_pos hp]
      simp only [getM]
      by_cases hb : b = a
      · rw [if_pos hb, if_pos hb]
      · rw [if_neg hb, if_neg hb, if_neg (fun h => hb (h.trans hp.symm))]
    · rw [if_neg hp]
      simp only [getM, getM_set a b v r]
      by_cases hb : b = p.1
      · rw [if_pos hb, if_pos hb, if_neg (fun h => hp (h.symm.trans hb))]
      · rw [if_neg hb, if_neg hb]
def EntryIs {P : Program} (K : KeyT P κ) (es : List MapEntry) (kv : List (κ × Value)) : Prop := es.map (fun e => (e.key, e.val)) = kv.map (fun p => (K.enc p.1, p.2))
variable {P : Program} {K : KeyT P κ} {w : World}
theorem findAsking_run (a : κ) : ∀ (kv : List (κ × Value)) (es : List MapEntry) (i : Nat), EntryIs K es kv → (findAsking K.ty (K.enc a) es i).run P w = .ok (ixM kv a i) w
  | [], [], i, _ => rfl
  | [], e :: es, i, h => by simp [EntryIs] at h
  | p :: kv, [], i, h => by simp [EntryIs] at h
  | p :: kv, e :: es, i, h => by
    simp only [EntryIs, List.map_cons, List.cons.injEq, Prod.mk.injEq] at h
    obtain ⟨⟨h1, h2⟩, h3⟩ := h
    simp only [findAsking, ixM, Sem.run_bind, h1, K.eqv]
    simp only [Result.andThen_ok]
    by_cases hp : a = p.1
    · simp [hp, h2]
    · simp only [hp, decide_false, Bool.false_eq_true, if_false]
      exact findAsking_run a kv es (i + 1) h3
theorem findKey_run (a : κ) (kv : List (κ × Value)) (es : List MapEntry) (h : EntryIs K es kv) : (findKey K.ty (K.enc a) es).run P w = .ok (ixM kv a 0) w := by
  obtain ⟨td, hu, hs⟩ := K.und
  unfold findKey
  rw [Sem.run_bind, run_underlying hu]
  simp only [Result.andThen_ok]
  cases es with
  | nil =>
    have : kv = [] := by cases kv with
      | nil => rfl
      | cons _ _ => simp [EntryIs] at h
    subst this; rfl
  | cons e r =>
    simp only [findNow, hs]
    exact findAsking_run a kv (e :: r) 0 h

/-- A map. -/
def mapR (K : KeyT P κ) (b : Nat) (kv : List (κ × Value)) : Res := {
  fp := fun b' => b' = b
  holds := fun w => ∃ es clock, w.heap[b]? = some (.map es clock) ∧ EntryIs K es.toList kv ∧ (∀ e ∈ es.toList, e.born < clock) ∧ (es.toList.map (·.born)).Nodup
  loc := fun w w' h hb => by
    obtain ⟨es, clock, h1, h2⟩ := h
    exact ⟨es, clock, (hb b rfl).trans h1, h2⟩
  old := fun w h b' hb => by
    obtain ⟨es, clock, h1, _⟩ := h
    subst hb
    rcases Nat.lt_or_ge b' w.heap.size with hlt | hge
    · exact hlt
    · rw [Array.getElem?_eq_none hge] at h1; cases h1 }
/-- What a map that is only read holds. -/
def MapA (K : KeyT P κ) (w : World) (b : Nat) (kv : List (κ × Value)) : Prop := (mapR K b kv).holds w
theorem MapA.keep {b : Nat} {kv : List (κ × Value)} {S : Nat → Prop} {w w' : World} (h : MapA K w b kv) (hk : Keep S w w') (hs : ¬ S b) : MapA K w' b kv :=
  (mapR K b kv).loc w w' h fun b' hb => by rw [show b' = b from hb]; exact hk.block b ((mapR K b kv).old w h b rfl) hs
theorem run_lookup {t et : TypeId} (ht : P.underlying t = some (.map K.ty et)) {b : Nat} {kv : List (κ × Value)} (h : MapA K w b kv) (a : κ) (z : Value) (hz : (zeroValue et).run P w = .ok z w) (ok : Bool) :
    (lookup t (.map (some b)) (K.enc a) ok).run P w = .ok (if ok then .tuple #[(getM kv a).getD z, .bool (getM kv a).isSome] else (getM kv a).getD z) w := by
  obtain ⟨es, clock, h1, h2, _⟩ := h
  have hf := findKey_run (w := w) a kv es.toList h2
  have hg := ixM_get a kv 0
  simp only [lookup, Sem.run_bind, run_underlying ht, MapKept.run_getObj_map h1, Result.andThen_ok, K.check, hf, Sem.run_pure]
  rw [← hg]
  cases hi : ixM kv a 0 with
  | none => cases ok <;> simp [hz, Result.andThen]
  | some p => cases ok <;> simp [Result.andThen]
theorem run_mapUpdate {t et : TypeId} (ht : P.underlying t = some (.map K.ty et)) {b : Nat} {kv : List (κ × Value)} (h : MapA K w b kv) (a : κ) (v : Value) :
    ∃ w', (mapUpdate t (.map (some b)) (K.enc a) v).run P w = .ok () w' ∧ MapA K w' b (setM kv a v) ∧ Keep (fun k => k = b) w w' := by
  obtain ⟨es, clock, h1, h2, h3, h4⟩ := h
  have hlt : b < w.heap.size := by
    rcases Nat.lt_or_ge b w.heap.size with hlt | hge
    · exact hlt
    · rw [Array.getElem?_eq_none hge] at h1; cases h1
  have hf := findKey_run (w := w) a kv es.toList h2
  obtain ⟨hx1, hx2⟩ := ixM_set a v kv 0
  have set_run : ∀ o : Obj, (setObj b o).run P w = .ok () { w with heap := w.heap.setIfInBounds b o } := fun o => by
    simp [setObj, Sem.run, h1]
  have kp : ∀ o : Obj, Keep (fun k => k = b) w { w with heap := w.heap.setIfInBounds b o } := fun o =>
    ⟨rfl, rfl, rfl, Nat.le_refl _, by simp, fun k _ hk => by simp [Array.getElem?_setIfInBounds, Ne.symm hk]⟩
  have hlen : es.size = kv.length := by
    have := congrArg List.length h2
    simpa using this
  cases hi : ixM kv a 0 with
  | none =>
    refine ⟨{ w with heap := w.heap.setIfInBounds b (.map (es.push { key := K.enc a, val := v, born := clock }) (clock + 1)) }, ?_, ⟨es.push { key := K.enc a, val := v, born := clock }, clock + 1, by simp [hlt], ?_, ?_, ?_⟩, kp _⟩
    · rw [hi] at hf
      simp only [mapUpdate, Sem.run_bind, run_underlying ht, MapKept.run_getObj_map h1, Result.andThen_ok, K.check, hf, set_run]
    · rw [hx2 hi]
      simp only [EntryIs, Array.toList_push, List.map_append, List.map_cons, List.map_nil]
      rw [h2]
    · intro e he
      rw [Array.toList_push, List.mem_append] at he
      rcases he with he | he
      · exact Nat.lt_succ_of_lt (h3 e he)
      · rw [List.mem_singleton.1 he]; exact Nat.lt_succ_self _
    · rw [Array.toList_push, List.map_append, List.nodup_append]
      refine ⟨h4, by simp, ?_⟩
      intro x hx y hy
      simp only [List.map_cons, List.map_nil, List.mem_singleton] at hy
      obtain ⟨e, he, rfl⟩ := List.mem_map.1 hx
      have := h3 e he
      omega
  | some p =>
    obtain ⟨i, x⟩ := p
    obtain ⟨_, hset, y, hy⟩ := hx1 i x hi
    rw [Nat.sub_zero] at hset hy
    have hil : i < es.size := by rw [hlen]; exact (List.getElem?_eq_some_iff.1 hy).1
    have hkey : es[i]?.map (·.key) = some (K.enc a) := by
      have h5 := congrArg (fun l : List (Value × Value) => l[i]?) h2
      simp only [List.getElem?_map, hy, Option.map_some] at h5
      rw [Array.getElem?_toList] at h5
      rw [Array.getElem?_eq_getElem hil] at h5 ⊢
      simp only [Option.map_some, Option.some.injEq, Prod.mk.injEq] at h5 ⊢
      exact h5.1
    have hks : (keyThatStays (K.enc a) (K.enc a)).run P w = .ok (K.enc a) w := by
      unfold keyThatStays
      rw [if_pos (K.bits a)]; rfl
    have hml : (es.modify i fun e => { e with key := K.enc a, val := v }).toList = es.toList.set i { es[i] with key := K.enc a, val := v } := by
      apply List.ext_getElem?
      intro j
      rw [Array.getElem?_toList, Array.getElem?_modify, List.getElem?_set]
      by_cases hij : i = j
      · subst hij; simp [hil]
      · simp [hij]
    refine ⟨{ w with heap := w.heap.setIfInBounds b (.map (es.modify i fun e => { e with key := K.enc a, val := v }) clock) }, ?_, ⟨es.modify i fun e => { e with key := K.enc a, val := v }, clock, by simp [hlt], ?_, ?_, ?_⟩, kp _⟩
    · rw [hi] at hf
      simp only [mapUpdate, Sem.run_bind, run_underlying ht, MapKept.run_getObj_map h1, Result.andThen_ok, K.check, hf, hkey, Option.getD_some, hks, set_run]
    · rw [hset]
      simp only [EntryIs, hml, List.map_set]
      rw [h2]
    · intro e he
      rw [hml] at he
      rcases List.mem_or_eq_of_mem_set he with he | he
      · exact h3 e he
      · subst he; exact h3 es[i] (by simp)
    · rw [hml, List.map_set]
      have : (es.toList.map (·.born)).set i es[i].born = es.toList.map (·.born) := by
        apply List.ext_getElem?
        intro j
        rw [List.getElem?_set]
        by_cases hij : i = j
        · subst hij; simp [hil]
        · rw [if_neg hij]
      rw [this]; exact h4
end

/-! ### In the walk -/
/-- A map whose entries are named. -/
structure MapX {κ : Type} [DecidableEq κ] {P : Program} (K : KeyT P κ) (w : World) (b : Nat) (es : Array MapEntry) (clock : Nat) (kv : List (κ × Value)) : Prop where
  heap : w.heap[b]? = some (.map es clock)
  ent : EntryIs K es.toList kv
  born : ∀ e ∈ es.toList, e.born < clock
  nodup : (es.toList.map (·.born)).Nodup
def seenOf (es : Array MapEntry) (done : List Nat) : Array Nat := (done.filterMap fun i => (es[i]?).map (·.born)).toArray
section
variable {κ : Type} [DecidableEq κ] {P : Program} {K : KeyT P κ} {m : Bool} {S : Nat → Prop} {n : Nat} {ops : Array Oper} {Q : Exit → Act → World → Prop}
variable {i : Nat} {o : Oper} {d : Nat} {v : Value} {l : List (Nat × Kd3)} {e : Env} {w w0 : World} {S0 : Nat → Prop} {H : List Res}
variable {b it : Nat} {kv : List (κ × Value)} {es : Array MapEntry} {clock : Nat}
theorem MapA.x (h : MapA K w b kv) : ∃ es clock, MapX K w b es clock kv := by
  obtain ⟨es, clock, h1, h2, h3, h4⟩ := h
  exact ⟨es, clock, h1, h2, h3, h4⟩
theorem MapX.a (h : MapX K w b es clock kv) : MapA K w b kv := ⟨es, clock, h.heap, h.ent, h.born, h.nodup⟩
theorem MapX.lt (h : MapX K w b es clock kv) : b < w.heap.size := by
  rcases Nat.lt_or_ge b w.heap.size with hlt | hge
  · exact hlt
  · have := h.heap; rw [Array.getElem?_eq_none hge] at this; cases this
theorem MapX.keep {w' : World} (h : MapX K w b es clock kv) (hk : Keep S w w') (hs : ¬ S b) : MapX K w' b es clock kv := ⟨(hk.block b h.lt hs).trans h.heap, h.ent, h.born, h.nodup⟩
theorem MapX.len (h : MapX K w b es clock kv) : es.size = kv.length := by simpa using congrArg List.length h.ent
theorem MapX.get (h : MapX K w b es clock kv) {j : Nat} {p : κ × Value} (hp : kv[j]? = some p) : ∃ x, es[j]? = some x ∧ x.key = K.enc p.1 ∧ x.val = p.2 := by
  have h5 := congrArg (fun l : List (Value × Value) => l[j]?) h.ent
  simp only [List.getElem?_map, hp, Option.map_some] at h5
  rw [Array.getElem?_toList] at h5
  cases hx : es[j]? with
  | none => rw [hx] at h5; simp at h5
  | some x =>
    rw [hx] at h5
    simp only [Option.map_some, Option.some.injEq, Prod.mk.injEq] at h5
    exact ⟨x, rfl, h5.1, h5.2⟩
theorem MapX.seen (h : MapX K w b es clock kv) (done : List Nat) {j : Nat} {x : MapEntry} (hx : es[j]? = some x) : (seenOf es done).contains x.born = true ↔ j ∈ done := by
  unfold seenOf
  rw [Array.contains_iff_mem, List.mem_toArray, List.mem_filterMap]
  constructor
  · rintro ⟨i, hi, he⟩
    obtain ⟨y, hy, hb⟩ := Option.map_eq_some_iff.1 he
    have hn := h.nodup
    have h1 : (es.toList.map (·.born))[i]? = some x.born := by rw [List.getElem?_map, Array.getElem?_toList, hy]; simp [hb]
    have h2 : (es.toList.map (·.born))[j]? = some x.born := by rw [List.getElem?_map, Array.getElem?_toList, hx]; rfl
    have hil := (List.getElem?_eq_some_iff.1 h1).1
    have := ((List.getElem?_inj hil hn).1 (h1.trans h2.symm))
    subst this; exact hi
  · intro hj
    exact ⟨j, hj, by rw [hx]; rfl⟩
theorem EW.lookup {x y : Operand} {t et : TypeId} {okb : Bool} {a : κ} {z : Value} (hm : MapA K w b kv) (hz : (P.info? et).map (·.zero) = some (some z)) (ht : P.underlying t = some (.map K.ty et)) (ho : ops[i]? = some o) (hop : o.op = .lookup t x y okb) (hg : wantedE ops e o = some true) (hd : o.dst = some d) (hdn : Nat.blt d n = true)
    (hx : ev e x = some (.map (some b))) (hy : ev e y = some (K.enc a)) (hS : m = true ∨ ¬ S b)
    (h : EW P m S n ops Q l ((d, if okb then .tuple #[(getM kv a).getD z, .bool (getM kv a).isSome] else (getM kv a).getD z) :: e) w) : EW P m S n ops Q ((i, .q) :: l) e w :=
  EW.q ho hg hd hdn (fun act ha w' hc => by
    have hm' : MapA K w' b kv := by
      unfold Cl at hc
      split at hc
      · subst hc; exact hm
      · rename_i hmm; exact hm.keep hc (hS.resolve_left hmm)
    obtain ⟨inf, hi, hzz⟩ := Option.map_eq_some_iff.1 hz
    have hz' : (zeroValue et).run P w' = .ok z w' := by simp [zeroValue, typeInfo, hi, hzz]
    simp only [Qt, execOp, hop, ha.eval hx, ha.eval hy]
    rw [Sem.run_bind, run_lookup ht hm' a z hz' okb]; rfl) h
theorem EW.mapUpdate (hs : St w0 S0 w H) (k : Nat) {x y z : Operand} {t et : TypeId} {a : κ} (ht : P.underlying t = some (.map K.ty et)) (ho : ops[i]? = some o) (hop : o.op = .mapUpdate t x y z) (hg : wantedE ops e o = some true) (hd : o.dst = none)
    (hk : H[k]? = some (mapR K b kv)) (hx : ev e x = some (.map (some b))) (hy : ev e y = some (K.enc a)) (hz : ev e z = some v) (hS : m = true ∨ S b)
    (h : ∀ w', St w0 S0 w' (H.set k (mapR K b (setM kv a v))) → EW P m S n ops Q l e w') : EW P m S n ops Q ((i, .l) :: l) e w := by
  obtain ⟨w', hr, hm', hkp⟩ := run_mapUpdate ht (hs.res k hk) a v
  refine EW.ls ho hg hd (fun act ha => ?_) (dl_of' (hS.imp id fun hS => hkp.mono fun k _ hk => by subst hk; exact hS)) (h w' (hs.turn k hk (by exact hkp) hm' (fun b' hb' => .inl hb')))
  simp only [execOp, hop, ha.eval hx, ha.eval hy, ha.eval hz, Sem.run_bind, hr]; rfl
theorem EW.mapUpdateB (hs : St w0 S0 w H) (k : Nat) {x y z : Operand} {t et : TypeId} {a : κ} (ht : P.underlying t = some (.map K.ty et)) (ho : ops[i]? = some o) (hop : o.op = .mapUpdate t x y z) (hg : wantedE ops e o = some true) (hd : o.dst = none)
    (hk : H[k]? = some (mapR K b kv)) (hx : ev e x = some (.map (some b))) (hy : ev e y = some (K.enc a)) (hz : ev e z = some v)
    (h : ∀ w', St w0 S0 w' (H.set k (mapR K b (setM kv a v))) → EW P m S n ops Q l e w') : EW P m S n ops Q ((i, .b) :: l) e w := by
  obtain ⟨w', hr, hm', hkp⟩ := run_mapUpdate ht (hs.res k hk) a v
  refine EW.bs ho hg hd (fun act ha => ?_) (h w' (hs.turn k hk (by exact hkp) hm' (fun b' hb' => .inl hb')))
  simp only [execOp, hop, ha.eval hx, ha.eval hy, ha.eval hz, Sem.run_bind, hr]; rfl
theorem EW.makeMap (K : KeyT P κ) (hs : St w0 S0 w H) {t : TypeId} (ho : ops[i]? = some o) (hop : o.op = .makeMap t none) (hg : wantedE ops e o = some true) (hd : o.dst = some d) (hdn : Nat.blt d n = true)
    (h : ∀ b w', St w0 S0 w' (mapR K b [] :: H) → EW P m S n ops Q l ((d, .map (some b)) :: e) w') : EW P m S n ops Q ((i, .l) :: l) e w :=
  EW.lv ho hg hd hdn (fun a ha => by
    simp only [execOp, hop, Option.map_none]
    rfl) (dl_of (Keep.alloc w _)) (h _ _ (hs.add (Keep.alloc w _) (R := mapR K w.heap.size []) ⟨#[], 0, heap_alloc_new w _, rfl, by simp, by simp⟩ (fun b hb => by rw [show b = w.heap.size from hb]; exact Nat.le_refl _)))
theorem EW.range (hs : St w0 S0 w H) (hm : MapX K w b es clock kv) {x : Operand} {t et : TypeId} (ht : P.underlying t = some (.map K.ty et)) (ho : ops[i]? = some o) (hop : o.op = .range t x) (hg : wantedE ops e o = some true) (hd : o.dst = some d) (hdn : Nat.blt d n = true)
    (hx : ev e x = some (.map (some b)))
    (h : ∀ it w', St w0 S0 w' (pt it (.mapIter (some b) clock (seenOf es []) clock) :: H) → EW P m S n ops Q l ((d, .pointer (some ⟨it, 0, none⟩)) :: e) w') : EW P m S n ops Q ((i, .l) :: l) e w :=
  EW.lv ho hg hd hdn (fun a ha => by
    simp only [execOp, hop, ha.eval hx]
    rw [Sem.run_bind, run_range_map w t _ _ b es clock ht hm.heap]; rfl) (dl_of (Keep.alloc w _)) (h _ _ (hs.alloc _))
theorem EW.next (hs : St w0 S0 w H) (k : Nat) {done : List Nat} (hm : MapX K w b es clock kv) {x : Operand} (ho : ops[i]? = some o) (hop : o.op = .next x false) (hg : wantedE ops e o = some true) (hd : o.dst = some d) (hdn : Nat.blt d n = true)
    (hk : H[k]? = some (pt it (.mapIter (some b) clock (seenOf es done) clock))) (hx : ev e x = some (.pointer (some ⟨it, 0, none⟩))) (hS : m = true ∨ S it)
    (h0 : (∀ i, i < kv.length → i ∈ done) → EW P m S n ops Q l ((d, .tuple #[.bool false]) :: e) w)
    (h1 : ∀ j p w', kv[j]? = some p → j ∉ done → St w0 S0 w' (H.set k (pt it (.mapIter (some b) clock (seenOf es (done ++ [j])) clock))) → EW P m S n ops Q l ((d, .tuple #[.bool true, K.enc p.1, p.2]) :: e) w') : EW P m S n ops Q ((i, .l) :: l) e w := by
  have hr : w.heap[it]? = some (.mapIter (some b) clock (seenOf es done) clock) := hs.res k hk
  rcases run_next_at (P := P) w o.type it b clock clock (seenOf es done) es clock hr hm.heap hm.born (Nat.le_refl _) with ⟨hz, hrun⟩ | ⟨x1, hx1, w1, hw1, hrun⟩
  · refine EW.lv ho hg hd hdn (fun a ha => ?_) (dl_of (Keep.refl _ _)) (h0 fun j hj => ?_)
    · simp only [execOp, hop, ha.eval hx]
      rw [Sem.run_bind, hrun]; rfl
    · have hjs : j < es.size := by rw [hm.len]; exact hj
      refine (hm.seen done (Array.getElem?_eq_getElem hjs)).1 ?_
      have hnil : leftOf es (seenOf es done) = #[] := Array.eq_empty_of_size_eq_zero hz
      unfold leftOf at hnil
      rw [Array.filter_eq_empty_iff] at hnil
      have := hnil es[j] (Array.getElem_mem hjs)
      simpa using this
  · have hmem : x1 ∈ es.toList ∧ (seenOf es done).contains x1.born = false := by
      unfold leftOf at hx1
      simp at hx1
      refine ⟨by simpa using hx1.1, ?_⟩
      rw [← Bool.not_eq_true, Array.contains_iff_mem]; exact hx1.2
    obtain ⟨j, hj⟩ := List.mem_iff_getElem?.1 hmem.1
    rw [Array.getElem?_toList] at hj
    have hjs : j < es.size := (Array.getElem?_eq_some_iff.1 hj).1
    have hjk : j < kv.length := by rw [← hm.len]; exact hjs
    obtain ⟨y, hy, hyk, hyv⟩ := hm.get (List.getElem?_eq_getElem hjk)
    rw [hj] at hy
    injection hy with hy; subst hy
    have hnd : j ∉ done := fun h => by
      rw [(hm.seen done hj).2 h] at hmem; exact absurd hmem.2 (by simp)
    have hseen : (seenOf es done).push x1.born = seenOf es (done ++ [j]) := by
      simp [seenOf, List.filterMap_append, hj]
    have hkp : Keep (fun k => k = it) w (ChangeMaps.setBlock w1 it (.mapIter (some b) clock ((seenOf es done).push x1.born) clock)) := by
      rcases hw1 with rfl | rfl
      · exact ⟨rfl, rfl, rfl, Nat.le_refl _, by simp [ChangeMaps.setBlock], fun k _ hk => by simp [ChangeMaps.setBlock, Array.getElem?_setIfInBounds, Ne.symm hk]⟩
      · exact ⟨rfl, rfl, rfl, Nat.le_succ _, by show w.heap.size ≤ (w.heap.setIfInBounds it _).size; simp, fun k _ hk => by show (w.heap.setIfInBounds it _)[k]? = _; simp [Array.getElem?_setIfInBounds, Ne.symm hk]⟩
    have hlt : it < w.heap.size := (pt it _).old w (hs.res k hk) it rfl
    refine EW.lv ho hg hd hdn (fun a ha => ?_) (dl_of' (hS.imp id fun hS => hkp.mono fun k _ hk => by subst hk; exact hS)) (h1 j kv[j] _ (List.getElem?_eq_getElem hjk) hnd (hs.turn k hk (by exact hkp) (R' := pt it _) ?_ (fun b' hb' => .inl hb')))
    · simp only [execOp, hop, ha.eval hx]
      rw [Sem.run_bind, hrun, hyk, hyv]; rfl
    · show (ChangeMaps.setBlock w1 it _).heap[it]? = _
      rw [← hseen]
      rcases hw1 with rfl | rfl
      · simp [ChangeMaps.setBlock, hlt]
      · show (w.heap.setIfInBounds it _)[it]? = _; simp [hlt]
theorem EW.entry (hs : St w0 S0 w H) (k : Nat) {done : List Nat} {j : Nat} {p : κ × Value} (hm : MapX K w b es clock kv) (hp : kv[j]? = some p) {x : Operand} (ho : ops[i]? = some o) (hop : o.op = .entry x) (hg : wantedE ops e o = some true) (hd : o.dst = some d) (hdn : Nat.blt d n = true)
    (hk : H[k]? = some (pt it (.mapIter (some b) clock (seenOf es (done ++ [j])) clock))) (hx : ev e x = some (.pointer (some ⟨it, 0, none⟩))) (hS : m = true)
    (h : EW P m S n ops Q l ((d, .tuple #[K.enc p.1, p.2]) :: e) w) : EW P m S n ops Q ((i, .q) :: l) e w :=
  EW.q ho hg hd hdn (fun act ha w' hc => by
    subst hS
    have : w' = w := hc
    subst this
    obtain ⟨y, hy, hyk, hyv⟩ := hm.get hp
    have hseen : (seenOf es done).push y.born = seenOf es (done ++ [j]) := by
      simp [seenOf, List.filterMap_append, hy]
    have hr : w'.heap[it]? = some (.mapIter (some b) clock ((seenOf es done).push y.born) clock) := by rw [hseen]; exact hs.res k hk
    simp only [Qt, execOp, hop, ha.eval hx]
    rw [Sem.run_bind, run_entry_at w' it b clock (seenOf es done) es clock y hr hm.heap (by rw [← Array.getElem?_toList] at hy; exact List.mem_of_getElem? hy) hm.nodup, hyk, hyv]; rfl) h
/-- The value alone, told. -/
theorem EW.lookup1 {x y : Operand} {t et : TypeId} {a : κ} {z : Value} (hm : MapA K w b kv) (hz : (P.info? et).map (·.zero) = some (some z)) (ht : P.underlying t = some (.map K.ty et)) (hv : (getM kv a).getD z = v) (ho : ops[i]? = some o) (hop : o.op = .lookup t x y false) (hg : wantedE ops e o = some true) (hd : o.dst = some d) (hdn : Nat.blt d n = true)
    (hx : ev e x = some (.map (some b))) (hy : ev e y = some (K.enc a)) (hS : m = true ∨ ¬ S b)
    (h : EW P m S n ops Q l ((d, v) :: e) w) : EW P m S n ops Q ((i, .q) :: l) e w :=
  EW.lookup hm hz ht ho hop hg hd hdn hx hy hS (by rw [hv]; exact h)
end
end Go.Cw
/-
  MORE OPERATIONS: rows opened to their cells, copy, growing by zeros, literals without elements, min and max, made slices, stores of elements.
-/
set_option linter.unusedVariables false
set_option linter.unusedSectionVars false
set_option linter.unusedSimpArgs false
namespace Go.Cw

theorem setAt_eq : ∀ (vs cs : List Value) (o : Nat), o + vs.length ≤ cs.length → setAt cs o vs = cs.take o ++ vs ++ cs.drop (o + vs.length)
  | [], cs, o, _ => by simp [setAt]
  | v :: r, cs, o, h => by
    simp only [List.length_cons] at h
    rw [setAt, setAt_eq r (cs.set o v) (o + 1) (by simp; omega)]
    rw [List.take_set, List.drop_set_of_lt (by omega)]
    have hl : o < cs.length := by omega
    rw [List.take_add_one, List.getElem?_eq_getElem hl]
    have e : (cs.take o ++ [cs[o]]).set o v = cs.take o ++ [v] := by
      rw [List.set_append_right _ _ (by simp; omega)]
      simp [Nat.min_eq_left (Nat.le_of_lt hl)]
    simp only [Option.toList_some, e, List.length_cons, List.append_assoc, List.singleton_append, List.cons_append, List.nil_append]
    rw [show o + 1 + r.length = o + (r.length + 1) from by omega]
theorem setAt_len : ∀ (vs cs : List Value) (o : Nat), (setAt cs o vs).length = cs.length
  | [], cs, o => rfl
  | v :: r, cs, o => by rw [setAt, setAt_len r]; simp
section
variable {P : Program} {α : Type} {w0 w w' : World} {S0 : Nat → Prop} {H : List Res} {E : El P α}
/-- A row, cell by cell. -/
theorem St.open_ (hs : St w0 S0 w H) (k : Nat) {A : Addr} {n c : Nat} {xs : List α} (hk : H[k]? = some (Cw.own E (.slice (some A) n c) xs)) :
    ∃ (g : Nat) (cs : List Value), A = ⟨g, 0, none⟩ ∧ n = xs.length ∧ cs.length = c * E.size ∧ cs.take (xs.length * E.size) = flat E xs ∧ xs.length ≤ c ∧ c ≤ maxLen ∧ St w0 S0 w (H.set k (pt g (.cells cs.toArray E.ty (0, 0)))) := by
  have h := hs.res k hk
  have hn : n = xs.length := (own_slA h).2.1
  rcases h.2 with ⟨h1, _⟩ | ⟨g, cap, cur, h1, _, hg, h2, h3, h4, h5⟩
  · cases h1
  · injection h1 with hA hn' hc
    injection hA with hA
    subst hA hc
    refine ⟨g, cur.toList, rfl, hn, by simpa using h4, h5, h2, h3, hs.conv k hk ?_ (fun b hb => ?_)⟩
    · show w.heap[g]? = _
      rw [hg]
    · rw [show b = g from hb]; rfl
theorem St.close_ (hs : St w0 S0 w H) (k : Nat) {g c : Nat} {cs : List Value} (hk : H[k]? = some (pt g (.cells cs.toArray E.ty (0, 0)))) (xs : List α) (hl : cs.length = c * E.size) (ht : cs.take (xs.length * E.size) = flat E xs) (hx : xs.length ≤ c) (hc : c ≤ maxLen) :
    St w0 S0 w (H.set k (Cw.own E (.slice (some ⟨g, 0, none⟩) xs.length c) xs)) := by
  have h := hs.res k hk
  refine hs.conv k hk ⟨flat_len E xs, .inr ⟨g, c, cs.toArray, rfl, Nat.zero_le _, h, hx, hc, by simpa using hl, by simpa using ht⟩⟩ (fun b hb => ?_)
  have : (Value.slice (some ⟨g, 0, none⟩) xs.length c).ownBlock = some b := hb
  simp [Value.ownBlock] at this
  exact this.symm
end
section
variable {P : Program} {α : Type} {m : Bool} {S : Nat → Prop} {n : Nat} {ops : Array Oper} {Q : Exit → Act → World → Prop}
variable {i : Nat} {o : Oper} {d : Nat} {v : Value} {l : List (Nat × Kd3)} {e : Env} {w w0 : World} {S0 : Nat → Prop} {H : List Res}
theorem BV.slnil {t et : TypeId} [ht : SlT P t et] {A : Option Addr} {k c : Nat} : BV P .eql t (.slice A k c) (.slice none 0 0) (.bool A.isNone) := fun w ox oy => by
  rw [Sem.run_bind, eqGuard_one (by intro cs; simp) (by simp)]
  exact Lib.run_eql_slice_nil w t et A k c 0 0 ht.u

/-- '[]T{}'. -/
theorem EW.lit0 (E : El P α) (hs : St w0 S0 w H) {t : TypeId} [ht : SlT P t E.ty] (ho : ops[i]? = some o) (hop : o.op = .buildSlice t 0 #[]) (hg : wantedE ops e o = some true) (hd : o.dst = some d) (hdn : Nat.blt d n = true)
    (h : ∀ b w', St w0 S0 w' (own E (.slice (some ⟨b, 0, none⟩) 0 0) [] :: H) → EW P m S n ops Q l ((d, .slice (some ⟨b, 0, none⟩) 0 0) :: e) w') : EW P m S n ops Q ((i, .l) :: l) e w :=
  EW.lv ho hg hd hdn (fun a ha => by
    obtain ⟨inf, hi, hzz⟩ := Option.map_eq_some_iff.1 E.info
    simp only [execOp, hop, List.map_toArray, List.map_nil]
    rw [Sem.run_bind]
    have : (Instr.buildSlice t 0 #[]).run P w = .ok (.slice (some ⟨w.heap.size, 0, none⟩) 0 0) (w.alloc (.cells #[] E.ty)) := by
      simp [Instr.buildSlice, run_underlying ht.u, sizeOf, typeInfo, hi, Instr.fill, newRow, Array.range_zero']
    rw [this]; rfl) (dl_of (Keep.alloc w _)) (h _ _ (hs.add (Keep.alloc w _) (R := own E (.slice (some ⟨w.heap.size, 0, none⟩) 0 0) []) ⟨flat_len E [], .inr ⟨w.heap.size, 0, #[], rfl, Nat.zero_le _, heap_alloc_new w _, Nat.le_refl _, Nat.zero_le _, by simp, by simp [flat]⟩⟩ (fun b hb => by
      have : (Value.slice (some ⟨w.heap.size, 0, none⟩) 0 0).ownBlock = some b := hb
      simp [Value.ownBlock] at this; omega)))
/-- 'make([]T, 0, c)'. -/
theorem EW.make0 (E : El P α) (hs : St w0 S0 w H) {t : TypeId} [ht : SlT P t E.ty] {x y : Operand} {c : Nat} (ho : ops[i]? = some o) (hop : o.op = .makeSlice t x y) (hg : wantedE ops e o = some true) (hd : o.dst = some d) (hdn : Nat.blt d n = true)
    (hx : ev e x = some (.int .i64 0)) (hy : ev e y = some (.int .i64 (c : Int))) (hb : E.bytes * c ≤ 281474976710656) (hc : c ≤ maxLen)
    (h : ∀ b w', St w0 S0 w' (own E (.slice (some ⟨b, 0, none⟩) 0 c) [] :: H) → EW P m S n ops Q l ((d, .slice (some ⟨b, 0, none⟩) 0 c) :: e) w') : EW P m S n ops Q ((i, .l) :: l) e w := by
  obtain ⟨inf, hi, hzz⟩ := Option.map_eq_some_iff.1 E.info
  simp only [Prod.mk.injEq] at hzz
  obtain ⟨hz, hsz, hby⟩ := hzz
  have hc63 : (c : Int) ≤ 9223372036854775807 := by simp only [maxLen] at hc; omega
  have hbi : (inf.bytes : Int) * (c : Int) ≤ 281474976710656 := by
    rw [hby, ← Int.natCast_mul]; omega
  have hr := run_make (P := P) w t E.ty inf E.zero ht.u hi hz .i64 .i64 0 (c : Int) (Int.le_refl _) (by omega) hbi hc63
  simp only [Int.toNat_zero, Int.toNat_natCast] at hr
  refine EW.lv ho hg hd hdn (fun a ha => by simp only [execOp, hop, ha.eval hx, ha.eval hy]; rw [Sem.run_bind, hr]; rfl) (dl_of (Keep.alloc w _)) (h _ _ (hs.add (Keep.alloc w _) (R := own E (.slice (some ⟨w.heap.size, 0, none⟩) 0 c) []) ?_ (fun b hb => ?_)))
  · exact ⟨flat_len E [], .inr ⟨w.heap.size, c, madeCells E.zero.cells (c * inf.size), rfl, Nat.zero_le _, heap_alloc_new w _, Nat.zero_le _, hc, by rw [size_madeCells, hsz], by show List.take (0 * E.size) _ = _; rw [Nat.zero_mul]; rfl⟩⟩
  · have : (Value.slice (some ⟨w.heap.size, 0, none⟩) 0 c).ownBlock = some b := hb
    simp [Value.ownBlock] at this; omega
/-- 'make([]T, k)', T of one cell. -/
theorem EW.makeN (E : El P α) (z : α) (hz1 : E.size = 1) (hzz0 : E.zero.cells = #[E.enc z]) (hze : (E.enc z).cells = #[E.enc z]) (hs : St w0 S0 w H) {t : TypeId} [ht : SlT P t E.ty] {x y : Operand} {c : Nat} (ho : ops[i]? = some o) (hop : o.op = .makeSlice t x y) (hg : wantedE ops e o = some true) (hd : o.dst = some d) (hdn : Nat.blt d n = true)
    (hx : ev e x = some (.int .i64 (c : Int))) (hy : ev e y = some (.int .i64 (c : Int))) (hb : E.bytes * c ≤ 281474976710656) (hc : c ≤ maxLen)
    (h : ∀ b w', St w0 S0 w' (own E (.slice (some ⟨b, 0, none⟩) c c) (List.replicate c z) :: H) → EW P m S n ops Q l ((d, .slice (some ⟨b, 0, none⟩) c c) :: e) w') : EW P m S n ops Q ((i, .l) :: l) e w := by
  obtain ⟨inf, hi, hzz⟩ := Option.map_eq_some_iff.1 E.info
  simp only [Prod.mk.injEq] at hzz
  obtain ⟨hz, hsz, hby⟩ := hzz
  have hc63 : (c : Int) ≤ 9223372036854775807 := by simp only [maxLen] at hc; omega
  have hbi : (inf.bytes : Int) * (c : Int) ≤ 281474976710656 := by
    rw [hby, ← Int.natCast_mul]; omega
  have hr := run_make (P := P) w t E.ty inf E.zero ht.u hi hz .i64 .i64 (c : Int) (c : Int) (by omega) (by omega) hbi hc63
  simp only [Int.toNat_natCast] at hr
  have hfl : ∀ k, flat E (List.replicate k z) = List.replicate k (E.enc z) := by
    intro k
    induction k with
    | zero => rfl
    | succ k ih =>
      simp only [flat, List.replicate_succ, List.flatMap_cons] at ih ⊢
      rw [ih, hze]; rfl
  have hmc : (madeCells E.zero.cells (c * inf.size)).toList = List.replicate c (E.enc z) := by
    rw [hsz, hz1, Nat.mul_one, hzz0]
    apply List.ext_getElem
    · simp [madeCells]
    · intro j h1 h2
      simp [madeCells, Nat.mod_one]
  refine EW.lv ho hg hd hdn (fun a ha => by simp only [execOp, hop, ha.eval hx, ha.eval hy]; rw [Sem.run_bind, hr]; rfl) (dl_of (Keep.alloc w _)) (h _ _ (hs.add (Keep.alloc w _) (R := own E (.slice (some ⟨w.heap.size, 0, none⟩) c c) (List.replicate c z)) ?_ (fun b hb => ?_)))
  · refine ⟨flat_len E _, .inr ⟨w.heap.size, c, madeCells E.zero.cells (c * inf.size), by simp, Nat.zero_le _, heap_alloc_new w _, by simp, hc, by rw [size_madeCells, hsz], ?_⟩⟩
    rw [hmc, hfl, List.length_replicate, hz1, Nat.mul_one]
    exact List.take_of_length_le (by simp)
  · have : (Value.slice (some ⟨w.heap.size, 0, none⟩) c c).ownBlock = some b := hb
    simp [Value.ownBlock] at this; omega
theorem EW.min {x y : Operand} {t1 t2 : TypeId} {a b : Int} (ho : ops[i]? = some o) (hop : o.op = .call { callee := .builtin .min, args := #[x, y], argTypes := #[t1, t2] }) (hg : wantedE ops e o = some true) (hd : o.dst = some d) (hdn : Nat.blt d n = true) (hx : ev e x = some (.int .i64 a)) (hy : ev e y = some (.int .i64 b))
    (h : EW P m S n ops Q l ((d, .int .i64 (if b < a then b else a)) :: e) w) : EW P m S n ops Q ((i, .q) :: l) e w :=
  EW.q ho hg hd hdn (fun ac ha w' _ => by simp [Qt, execOp, hop, ha.eval hx, ha.eval hy, resolve, invoke, builtin, Builtin.min_, Builtin.min2]) h
theorem EW.max {x y : Operand} {t1 t2 : TypeId} {a b : Int} (ho : ops[i]? = some o) (hop : o.op = .call { callee := .builtin .max, args := #[x, y], argTypes := #[t1, t2] }) (hg : wantedE ops e o = some true) (hd : o.dst = some d) (hdn : Nat.blt d n = true) (hx : ev e x = some (.int .i64 a)) (hy : ev e y = some (.int .i64 b))
    (h : EW P m S n ops Q l ((d, .int .i64 (if b > a then b else a)) :: e) w) : EW P m S n ops Q ((i, .q) :: l) e w :=
  EW.q ho hg hd hdn (fun ac ha w' _ => by simp [Qt, execOp, hop, ha.eval hx, ha.eval hy, resolve, invoke, builtin, Builtin.max_, Builtin.max2]) h
theorem EW.cap {x : Operand} {t : TypeId} {A : Option Addr} {k c : Nat} {et : TypeId} [ht : SlT P t et] (ho : ops[i]? = some o) (hop : o.op = .call { callee := .builtin .cap, args := #[x], argTypes := #[t] }) (hg : wantedE ops e o = some true) (hd : o.dst = some d) (hdn : Nat.blt d n = true) (hx : ev e x = some (.slice A k c))
    (h : EW P m S n ops Q l ((d, .int .i64 (c : Int)) :: e) w) : EW P m S n ops Q ((i, .q) :: l) e w :=
  EW.q ho hg hd hdn (fun a ha w' _ => by simp [Qt, execOp, hop, ha.eval hx, resolve, invoke, builtin, Builtin.cap_, run_underlying ht.u, goInt]) h
/-- copy into a row that is opened. -/
theorem EW.copyPt (hs : St w0 S0 w H) (k : Nat) {g off dl dc sl sc size : Nat} {sA : Option Addr} {cs us : List Value} {et rt : TypeId} {ag : Bool} {x y : Operand} {t t' : TypeId} [ht : SlT P t et] [hsz : TyI P et ag size] (ho : ops[i]? = some o) (hop : o.op = .call { callee := .builtin .copy, args := #[x, y], argTypes := #[t, t'] }) (hg : wantedE ops e o = some true) (hd : o.dst = some d) (hdn : Nat.blt d n = true)
    (hk : H[k]? = some (pt g (.cells cs.toArray rt (0, 0)))) (hx : ev e x = some (.slice (some ⟨g, off, none⟩) dl dc)) (hy : ev e y = some (.slice sA sl sc))
    (hl : us.length = Nat.min sl dl * size) (hsrc : ∀ ad, sA = some ad → ∀ j u, us[j]? = some u → w.cell? (ad.add j) = some u) (hnil : sA = none → us = []) (h1 : ∀ u ∈ us, u.oneCell' = true) (hfit : off + us.length ≤ cs.length) (hS : m = true ∨ S g)
    (h : ∀ w', St w0 S0 w' (H.set k (pt g (.cells (setAt cs off us).toArray rt (0, 0)))) → EW P m S n ops Q l ((d, .int .i64 (Nat.min sl dl : Nat)) :: e) w') : EW P m S n ops Q ((i, .l) :: l) e w := by
  have hb : w.heap[g]? = some (.cells cs.toArray rt (0, 0)) := hs.res k hk
  obtain ⟨w', hr, hw, hkp⟩ := run_storeCells_lit (P := P) g rt us off 0 cs.toArray w hb (by simp; omega) h1
  have hf : (Builtin.firstCells size (Nat.min sl dl) (.slice sA sl sc)).run P w = .ok us.toArray w := by
    cases sA with
    | some ad => exact run_firstCells_some (P := P) w size _ ad sl sc us hl (hsrc ad rfl)
    | none => rw [hnil rfl]; exact run_firstCells_none w size _ sl sc
  refine EW.lv ho hg hd hdn (fun a ha => ?_) (dl_of' (hS.imp id fun hS => hkp.mono fun k _ hk => by subst hk; exact hS)) (h w' (hs.turn k hk (by exact hkp) (R' := pt g _) (by
    show w'.heap[g]? = _
    rw [hw, Nat.add_zero, setAt_fold]) (fun b' hb' => .inl hb')))
  simp only [execOp, hop, resolve, invoke, builtin, Sem.run_bind, Sem.run_pure, Result.andThen_ok, List.map_toArray, List.map_cons, List.map_nil, ha.eval hx, ha.eval hy]
  have hrun : (Builtin.copy_ #[t, t'] o.type #[.slice (some ⟨g, off, none⟩) dl dc, .slice sA sl sc]).run P w = .ok (goInt (Nat.min sl dl)) w' := by
    simp only [Builtin.copy_, List.getElem?_toArray, List.getElem?_cons_zero, List.getElem?_cons_succ, Sem.run_bind, run_underlying ht.u, Result.andThen_ok, Builtin.lenOf, Sem.run_pure, hsz.size, hf, hr]
  rw [hrun]; rfl

theorem flat_set (E : El P α) : ∀ (xs : List α) (j : Nat) (z : α), j < xs.length → flat E (xs.set j z) = setAt (flat E xs) (j * E.size) (E.enc z).cells.toList
  | [], j, z, h => by simp at h
  | x :: r, j, z, h => by
    have hlen : ∀ y : α, (E.enc y).cells.toList.length = E.size := fun y => by have := E.cells y; simpa using this
    have hf : flat E (x :: r) = (E.enc x).cells.toList ++ flat E r := rfl
    cases j with
    | zero =>
      rw [setAt_eq _ _ _ (by rw [hlen, flat_len]; simp [Nat.add_mul]), hf, Nat.zero_mul, List.take_zero, List.nil_append, Nat.zero_add, hlen, List.drop_left' (hlen x)]
      rfl
    | succ j =>
      have hj : j < r.length := by simpa using h
      have hb : j * E.size + E.size ≤ r.length * E.size := by rw [← Nat.succ_mul]; exact Nat.mul_le_mul_right _ hj
      have h1 : flat E ((x :: r).set (j + 1) z) = (E.enc x).cells.toList ++ flat E (r.set j z) := rfl
      rw [h1, flat_set E r j z hj, setAt_eq _ _ _ (by rw [hlen, flat_len]; exact hb), setAt_eq _ _ _ (by rw [hlen, hf, List.length_append, hlen, flat_len, Nat.succ_mul]; omega)]
      have e1 : (j + 1) * E.size = (E.enc x).cells.toList.length + j * E.size := by rw [hlen, Nat.succ_mul, Nat.add_comm]
      rw [hf, e1, Nat.add_assoc, List.take_length_add_append, List.drop_length_add_append]
      simp only [List.append_assoc]
theorem take_setAt : ∀ (vs cs : List Value) (o k : Nat), (setAt cs o vs).take k = setAt (cs.take k) o vs
  | [], _, _, _ => rfl
  | v :: r, cs, o, k => by rw [setAt, take_setAt r, List.take_set]; rfl
theorem St.put (E : El P α) {b g c : Nat} {cs : List Value} {xs : List α} {j : Nat} {z : α} {rt : Nat} (hl : cs.length = c * E.size) (ht : cs.take (xs.length * E.size) = flat E xs) (hx : xs.length ≤ c) (hj : j < xs.length) :
    (setAt cs (j * E.size) (E.enc z).cells.toList).length = c * E.size ∧ (setAt cs (j * E.size) (E.enc z).cells.toList).take ((xs.set j z).length * E.size) = flat E (xs.set j z) := by
  have hlen : (E.enc z).cells.toList.length = E.size := by have := E.cells z; simpa using this
  have h1 : j * E.size + E.size ≤ xs.length * E.size := by rw [← Nat.succ_mul]; exact Nat.mul_le_mul_right _ hj
  have h2 : xs.length * E.size ≤ cs.length := by rw [hl]; exact Nat.mul_le_mul_right _ hx
  refine ⟨by rw [setAt_len, hl], ?_⟩
  rw [List.length_set, take_setAt, ht, flat_set E xs j z hj]
theorem one_enc (E : El P α) (z : α) : ∀ u ∈ (E.enc z).cells.toList, u.oneCell' = true := E.one z
/-- A store into a row that is owned. -/
theorem EW.storeEl (E : El P α) (hs : St w0 S0 w H) (k : Nat) {A : Addr} {nn c j : Nat} {xs : List α} {z : α} {x y : Operand} {t : TypeId} {ag : Bool} [ht : TyI P t ag E.size] (hj : j < xs.length) (ho : ops[i]? = some o) (hop : o.op = .store t x y) (hg : wantedE ops e o = some true) (hd : o.dst = none)
    (hk : H[k]? = some (own E (.slice (some A) nn c) xs)) (hx : ev e x = some (.pointer (some (A.add (j * E.size))))) (hy : ev e y = some (E.enc z)) (hS : m = true ∨ S A.block)
    (h : ∀ w', St w0 S0 w' (H.set k (own E (.slice (some A) nn c) (xs.set j z))) → EW P m S n ops Q l e w') : EW P m S n ops Q ((i, .l) :: l) e w := by
  obtain ⟨g, cs, rfl, rfl, hl, htk, hxc, hc, hs'⟩ := hs.open_ k hk
  have hkl : k < H.length := (List.getElem?_eq_some_iff.1 hk).1
  have hlen : (E.enc z).cells.toList.length = E.size := by have := E.cells z; simpa using this
  obtain ⟨h1, h2⟩ := St.put E (z := z) (b := 0) (g := 0) (rt := 0) hl htk hxc hj
  rw [add_at] at hx
  refine EW.store (v := E.enc z) (cs := cs) (et := E.ty) hs' k ho hop hg hd hx (by rw [List.getElem?_set_self hkl]) hy rfl hlen (one_enc E z) ?_ hS fun w' hs2 => h w' ?_
  · rw [Nat.ble_eq, hl, Nat.zero_add, ← Nat.succ_mul]; exact Nat.mul_le_mul_right _ (by omega)
  · rw [List.set_set, Nat.zero_add] at hs2
    have := hs2.close_ (E := E) k (by rw [List.getElem?_set_self hkl]) (xs.set j z) h1 h2 (by simpa using hxc) hc
    rw [List.set_set, List.length_set] at this
    exact this
theorem EW.storeElB (E : El P α) (hs : St w0 S0 w H) (k : Nat) {A : Addr} {nn c j : Nat} {xs : List α} {z : α} {x y : Operand} {t : TypeId} {ag : Bool} [ht : TyI P t ag E.size] (hj : j < xs.length) (ho : ops[i]? = some o) (hop : o.op = .store t x y) (hg : wantedE ops e o = some true) (hd : o.dst = none)
    (hk : H[k]? = some (own E (.slice (some A) nn c) xs)) (hx : ev e x = some (.pointer (some (A.add (j * E.size))))) (hy : ev e y = some (E.enc z))
    (h : ∀ w', St w0 S0 w' (H.set k (own E (.slice (some A) nn c) (xs.set j z))) → EW P m S n ops Q l e w') : EW P m S n ops Q ((i, .b) :: l) e w := by
  obtain ⟨g, cs, rfl, rfl, hl, htk, hxc, hc, hs'⟩ := hs.open_ k hk
  have hkl : k < H.length := (List.getElem?_eq_some_iff.1 hk).1
  have hlen : (E.enc z).cells.toList.length = E.size := by have := E.cells z; simpa using this
  obtain ⟨h1, h2⟩ := St.put E (z := z) (b := 0) (g := 0) (rt := 0) hl htk hxc hj
  rw [add_at] at hx
  refine EW.storeB (v := E.enc z) (cs := cs) (et := E.ty) hs' k ho hop hg hd hx (by rw [List.getElem?_set_self hkl]) hy rfl hlen (one_enc E z) ?_ fun w' hs2 => h w' ?_
  · rw [Nat.ble_eq, hl, Nat.zero_add, ← Nat.succ_mul]; exact Nat.mul_le_mul_right _ (by omega)
  · rw [List.set_set, Nat.zero_add] at hs2
    have := hs2.close_ (E := E) k (by rw [List.getElem?_set_self hkl]) (xs.set j z) h1 h2 (by simpa using hxc) hc
    rw [List.set_set, List.length_set] at this
    exact this
theorem run_append_zeros (t tn ty e : TypeId) (i : TypeInfo) (z : Value) (ht : P.underlying t = some (.slice e)) (htn : ∃ kn, P.underlying tn = some (.int kn)) (hi : P.info? e = some i) (hz : i.zero = some z)
    (b : Addr) (sLen sCap : Nat) (olds : List Value) (hlo : olds.length = sLen * i.size) (holds : ∀ j v, olds[j]? = some v → w.cell? (b.add j) = some v) (nz : Nat) (h0 : 0 < nz) (hsz : 0 < i.size)
    (hg : sCap < sLen + nz) (h63 : ((sLen + nz : Nat) : Int) ≤ 9223372036854775807) (hbig : nz * i.bytes ≤ 281474976710656) (hfit : Builtin.nextslicecap (sLen + nz) sCap * i.bytes ≤ 281474976710656) :
    (Builtin.append_ #[t, tn] ty #[.slice (some b) sLen sCap, .int .i64 (nz : Int)]).run P w =
      .ok (.slice (some ⟨w.heap.size, 0, none⟩) (sLen + nz) (grownCap w (sLen + nz) sCap e))
        (w.drew.alloc (.cells (olds.toArray ++ Builtin.zeroCells z.cells nz ++ Builtin.zeroCells z.cells (grownCap w (sLen + nz) sCap e - (sLen + nz))) e)) := by
  obtain ⟨kn, htn⟩ := htn
  have hn : ¬ (sLen + nz ≤ sCap) := by omega
  have hw : IntKind.i64.wrap (nz : Int) = nz := by rw [IntKind.wrap_i64]; omega
  have h63' : ¬ (9223372036854775807 < ((sLen : Int) + (nz : Int))) := by omega
  have h48' : ¬ (281474976710656 < Builtin.nextslicecap (sLen + nz) sCap * i.bytes) := by omega
  have h48i : ¬ (281474976710656 < (nz : Int) * (i.bytes : Int)) := by
    rw [← Int.natCast_mul]; omega
  have hne : ¬ (nz * i.size = 0) := Nat.ne_of_gt (Nat.mul_pos h0 hsz)
  have hne' : ¬ (nz = 0 ∨ i.size = 0) := by omega
  have hlt : ¬ ((nz : Int) < 0) := by omega
  have hfo := run_firstCells_some (P := P) w.drew i.size sLen b sLen sCap olds hlo (by simpa using holds)
  simp [Builtin.append_, run_underlying ht, run_underlying htn, sizeOf, typeInfo, zeroValue, hi, hz, asInt, asIntOf, hw, hlt, hn, h63', h48', h48i, hne', Question.forced, hfo, newRow, grownCap]
  exact fun h => absurd h hne
/-- 'append(s, make([]T, k)...)' that does not fit. -/
theorem EW.growZeros (E : El P α) (hs : St w0 S0 w H) {t tn : TypeId} {b : Addr} {sl sc nz : Nat} {olds : List Value} {x y : Operand} [ht : SlT P t E.ty] (htn : ∃ kn, P.underlying tn = some (.int kn)) (ho : ops[i]? = some o) (hop : o.op = .call { callee := .builtin .append, args := #[x, y], argTypes := #[t, tn] }) (hg : wantedE ops e o = some true) (hd : o.dst = some d) (hdn : Nat.blt d n = true)
    (hx : ev e x = some (.slice (some b) sl sc)) (hy : ev e y = some (.int .i64 (nz : Int))) (hlo : olds.length = sl * E.size) (holds : ∀ j v, olds[j]? = some v → w.cell? (b.add j) = some v) (h0 : 0 < nz) (hgr : sc < sl + nz) (hbytes : (sl + nz) * E.bytes ≤ 140737488355328) (hml : sl + nz ≤ maxLen)
    (h : ∀ (g c' : Nat) (cs' : List Value) (w' : World), sl + nz ≤ c' → c' ≤ maxLen → cs'.length = c' * E.size → cs'.take (sl * E.size) = olds → St w0 S0 w' (pt g (.cells cs'.toArray E.ty (0, 0)) :: H) → EW P m S n ops Q l ((d, .slice (some ⟨g, 0, none⟩) (sl + nz) c') :: e) w') : EW P m S n ops Q ((i, .l) :: l) e w := by
  obtain ⟨inf, hi, hzz⟩ := Option.map_eq_some_iff.1 E.info
  simp only [Prod.mk.injEq] at hzz
  obtain ⟨hz, hsz, hby⟩ := hzz
  have h63 : ((sl + nz : Nat) : Int) ≤ 9223372036854775807 := by simp only [maxLen] at hml; omega
  have hb1 : nz * E.bytes ≤ (sl + nz) * E.bytes := Nat.mul_le_mul_right _ (by omega)
  have hr := run_append_zeros (P := P) (w := w) t tn o.type E.ty inf E.zero ht.u htn hi hz b sl sc olds (by rw [hsz]; exact hlo) holds nz h0 (by rw [hsz]; exact E.pos) hgr h63 (by rw [hby]; omega) (by rw [hby]; exact growslice_fits hgr hbytes)
  have hge := grownCap_ge w (sl + nz) sc E.ty
  have hle := grownCap_le_maxLen w (sl + nz) sc E.ty hml
  have hzc : ∀ k, (Builtin.zeroCells E.zero.cells k).size = k * E.size := fun k => by simp [Builtin.zeroCells, E.zsize]
  let ob : Obj := .cells (olds.toArray ++ Builtin.zeroCells E.zero.cells nz ++ Builtin.zeroCells E.zero.cells (grownCap w (sl + nz) sc E.ty - (sl + nz))) E.ty
  have hkp : Keep noS w (w.drew.alloc ob) := (Keep.drew w).trans (Keep.alloc _ _)
  have hh : (w.drew.alloc ob).heap[w.heap.size]? = some ob := heap_alloc_new w.drew ob
  have hob : ob = .cells (olds ++ ((Builtin.zeroCells E.zero.cells nz).toList ++ (Builtin.zeroCells E.zero.cells (grownCap w (sl + nz) sc E.ty - (sl + nz))).toList)).toArray E.ty (0, 0) := by
    show Obj.cells _ _ _ = Obj.cells _ _ _
    congr 1
    apply Array.ext'
    simp
  refine EW.lv (w1 := w.drew.alloc ob) ho hg hd hdn (fun a ha => ?_) (dl_of hkp) (h _ _ (olds ++ ((Builtin.zeroCells E.zero.cells nz).toList ++ (Builtin.zeroCells E.zero.cells (grownCap w (sl + nz) sc E.ty - (sl + nz))).toList)) _ hge hle ?_ ?_ (hs.add hkp (R := pt w.heap.size _) (by show (w.drew.alloc ob).heap[w.heap.size]? = _; rw [hh, hob]) (fun b' hb' => by rw [show b' = w.heap.size from hb']; exact Nat.le_refl _)))
  · simp only [execOp, hop, resolve, invoke, builtin, Sem.run_bind, Sem.run_pure, Result.andThen_ok, List.map_toArray, List.map_cons, List.map_nil, ha.eval hx, ha.eval hy]
    rw [hr]; rfl
  · simp only [List.length_append, Array.length_toList, hzc, hlo]
    rw [← Nat.add_mul, ← Nat.add_mul]; congr 1; omega
  · rw [← hlo]; exact List.take_left
/-- slices.overlaps of rows that lie apart. -/
theorem EW.overlaps {f : FuncId} {fn : Func} {t tr et : TypeId} {size : Nat} {ag : Bool} {x y : Operand} {a b : Addr} {la ca lb cb : Nat} {at_ : Array TypeId} [ht : SlT P t et] [hz : TyI P et ag size] (ho : ops[i]? = some o) (hop : o.op = .call { callee := .value (.func f), args := #[x, y], argTypes := at_ }) (hg : wantedE ops e o = some true) (hd : o.dst = some d) (hdn : Nat.blt d n = true)
    (hf : P.funcs[f]? = some fn) (hfn : (fn.name == "runtime.NumGoroutine") = false) (hfb : fn.body.isNone = true) (hnx : Extern.findNext fn = none) (hex : Extern.find fn = some (Extern.SlicesOverlaps.overlaps #[t, t] #[tr]))
    (hx : ev e x = some (.slice (some a) la ca)) (hy : ev e y = some (.slice (some b) lb cb)) {ta tb : TypeId} {csa csb : Array Value} (hne : a.block ≠ b.block) (ha : w.heap[a.block]? = some (.cells csa ta (0, 0))) (hb : w.heap[b.block]? = some (.cells csb tb (0, 0))) (hsb : csb.size ≠ 0)
    (h : EW P m S n ops Q l ((d, .bool false) :: e) w) : EW P m S n ops Q ((i, .l) :: l) e w := by
  have hfr : ∀ ad : Addr, ad.block = a.block → w.frozen? ad = false := fun ad had => by
    simp [World.frozen?, had, ha]
  have hr := Lib.run_overlaps_apart (P := P) w t tr et ht.u size hz.size a b la ca lb cb hne ta tb csa.size csb.size (by simp [World.shape?, ha]) (by simp [World.shape?, hb]) hsb (hfr a rfl) (hfr _ rfl)
  refine EW.lv ho hg hd hdn (fun ac hac => ?_) (dl_of (Keep.refl _ _)) h
  have hc := run_callFunc_extern hf hfn hfb hnx hex #[.slice (some a) la ca, .slice (some b) lb cb] w
  rw [hr] at hc
  have hev := hac.eval hx
  have hew := hac.eval hy
  unfold execOp
  rw [hop]
  simp only [resolve, Deferred.ofValue, Sem.run_bind, Sem.run_pure, Result.andThen_ok, invoke, List.map_toArray, List.map_cons, List.map_nil, hev, hew]
  simpa [Act.eval, Deferred.ofValue, resolve, invoke] using hc

/-- A call through a function value. -/
theorem EW.callV {f : FuncId} {fn : Func} {x : Operand} {args : List Operand} {at_ : Array TypeId} {vs : List Value} {Post : Value → World → Prop} (hc : T1 P f vs w Post) (hxv : ev e x = some (.func (.func f) #[] #[])) (ho : ops[i]? = some o) (hop : o.op = .call { callee := .value x, args := args.toArray, argTypes := at_ }) (hg : wantedE ops e o = some true) (hd : o.dst = some d) (hdn : Nat.blt d n = true)
    (hf : P.funcs[f]? = some fn) (hfb : fn.body.isNone = false) (hfn : (fn.name == "runtime.NumGoroutine") = false) (ha : evs e args = some vs)
    (h : ∀ v w', Keep noS w w' → Post v w' → EW P m S n ops Q l ((d, v) :: e) w') : EW P m S n ops Q ((i, .l) :: l) e w :=
  EW.l ho hg fun a hfr => by
    have hev := hfr.eval hxv
    have hrun : (execOp a.eval o).run P w = .ok (.enter f vs.toArray) w := by
      unfold execOp
      rw [hop]
      simp only [resolve, hev, Deferred.ofValue, Sem.run_bind, Sem.run_pure, Result.andThen_ok, invoke, callFunc, run_program, hf]
      simp only [hfn, hfb, Bool.false_eq_true, if_false]
      simp [← hfr.evals ha]
    unfold Oper.wp
    rw [hrun]
    refine Calls.mono hc fun en w' hr => ?_
    obtain ⟨v, rfl, hk, hp⟩ := hr
    exact ⟨dl_of hk, by rw [hd]; exact h v w' hk hp _ (hfr.put hdn v)⟩
theorem EW.convI {x : Operand} {t t' : TypeId} {k k' : IntKind} {a b : Int} [ht : IntT P t k] [ht' : IntT P t' k'] (ho : ops[i]? = some o) (hop : o.op = .convert t t' x) (hg : wantedE ops e o = some true) (hd : o.dst = some d) (hdn : Nat.blt d n = true) (hx : ev e x = some (.int k a)) (hb : k'.wrap a = b)
    (h : EW P m S n ops Q l ((d, .int k' b) :: e) w) : EW P m S n ops Q ((i, .q) :: l) e w :=
  EW.q ho hg hd hdn (fun ac ha w' _ => by
    simp [Qt, execOp, hop, ha.eval hx, convert, run_underlying ht.u, run_underlying ht'.u, Conv.intToInt, hb]) h
theorem BV.shr1 {t : TypeId} {a : Int} [ht : IntT P t .u64] : BV P .shr t (.int .u64 a) (.int .u64 1) (.int .u64 (a / 2)) := fun w ox oy => by
  rw [Sem.run_bind, eqGuard_one (by intro cs; simp) (by simp)]
  rw [binOp_shr, shift_shr .u64 .u64 a 1 (by decide) (by decide)]; rfl
end
end Go.Cw
/-
  SORTED ROWS: the library's sorts, as turns of an owned row.
-/
set_option linter.unusedVariables false
set_option linter.unusedSectionVars false
set_option linter.unusedSimpArgs false
namespace Go.Cw
open Go.Sort Go.Proofs

theorem sorted_world {β : Type} [Inhabited β] (enc : β → Value) {w : World} {blk n : Nat} {d : Array β} {os : Array Obj} {cur : Array Value} {t : TypeId} (hb : w.heap[blk]? = some (.cells cur t (0, 0))) (hd : d.size ≤ cur.size) :
    Keep (fun b => b = blk) w (grow (putRow enc (Sort.ahead w n) blk 0 d) os) ∧ ∃ cur' : Array Value, (grow (putRow enc (Sort.ahead w n) blk 0 d) os).heap[blk]? = some (.cells cur' t (0, 0)) ∧ cur'.size = cur.size ∧ cur'.toList.take d.size = d.toList.map enc := by
  have hlt : blk < w.heap.size := (Array.getElem?_eq_some_iff.1 hb).1
  have hheap : (grow (putRow enc (Sort.ahead w n) blk 0 d) os).heap = w.heap.modify blk (onCells (putCells enc 0 d)) ++ os := rfl
  refine ⟨⟨rfl, rfl, rfl, Nat.le_add_right _ _, by rw [hheap]; simp, fun k hk hne => ?_⟩, putCells enc 0 d cur, ?_, by simp [putCells], ?_⟩
  · rw [hheap, Array.getElem?_append_left (by simpa using hk), Array.getElem?_modify, if_neg (fun h => hne h.symm)]
  · rw [hheap, Array.getElem?_append_left (by simpa using hlt), Array.getElem?_modify, if_pos rfl, hb]; rfl
  · apply List.ext_getElem?
    intro j
    by_cases hj : j < d.size
    · rw [List.getElem?_take_of_lt hj, Array.getElem?_toList, List.getElem?_map, Array.getElem?_toList]
      simp only [putCells, Array.getElem?_mapIdx, Nat.zero_add, Nat.zero_le, true_and, Nat.sub_zero]
      rw [Array.getElem?_eq_getElem (by omega), Array.getElem?_eq_getElem hj]
      simp [hj]
    · rw [List.getElem?_eq_none (by simp; omega), List.getElem?_eq_none (by simp; omega)]
/-- An owned row of one-cell elements, as the sorts ask for it. -/
theorem holds_own {P : Program} {α : Type} (E : El P α) {β : Type} [Inhabited β] (f : β → α) (enc : β → Value) (he : ∀ x, (E.enc (f x)).cells.toList = [enc x]) (h1 : E.size = 1) {w : World} {g n c : Nat} {xs : List β} (h : (own E (.slice (some ⟨g, 0, none⟩) n c) (xs.map f)).holds w) :
    Holds enc w g 0 xs.toArray := fun j hj => by
  have hfl : flat E (xs.map f) = xs.map enc := by
    clear h hj
    induction xs with
    | nil => rfl
    | cons x r ih =>
      simp only [flat, List.map_cons, List.flatMap_cons] at ih ⊢
      rw [he, ih]; rfl
  have hc := h.cells (g := g) rfl j (enc xs.toArray[j]!) (by
    rw [hfl, List.getElem?_map]
    simp only [List.size_toArray] at hj
    simp [hj])
  rcases h.2 with ⟨h2, _⟩ | ⟨g', cap, cur, h2, _, hg, _⟩
  · cases h2
  · injection h2 with h2; injection h2 with h2; injection h2 with h2
    subst h2
    refine ⟨?_, ?_⟩
    · rw [Nat.zero_add]
      have := hc
      rw [add_at, Nat.zero_add] at this
      exact this
    · exact frozen_of_row w g _ cur _ hg
theorem own_sorted {P : Program} {α : Type} (E : El P α) {β : Type} [Inhabited β] (f : β → α) (enc : β → Value) (he : ∀ x, (E.enc (f x)).cells.toList = [enc x]) (h1 : E.size = 1) {w : World} {g n c m : Nat} {xs ys : List β} {os : Array Obj} (h : (own E (.slice (some ⟨g, 0, none⟩) n c) (xs.map f)).holds w) (hl : ys.length = xs.length) :
    Keep (own E (.slice (some ⟨g, 0, none⟩) n c) (xs.map f)).fp w (grow (putRow enc (Sort.ahead w m) g 0 ys.toArray) os) ∧ (own E (.slice (some ⟨g, 0, none⟩) n c) (ys.map f)).holds (grow (putRow enc (Sort.ahead w m) g 0 ys.toArray) os) := by
  have hfl : ∀ zs : List β, flat E (zs.map f) = zs.map enc := by
    intro zs
    induction zs with
    | nil => rfl
    | cons x r ih =>
      simp only [flat, List.map_cons, List.flatMap_cons] at ih ⊢
      rw [he, ih]; rfl
  have hn := (own_slA h).2.1
  rcases h.2 with ⟨h2, _⟩ | ⟨g', cap, cur, h2, _, hg, h3, h4, h5, h6⟩
  · cases h2
  · injection h2 with h2 h2' h2''; injection h2 with h2; injection h2 with h2
    subst h2 h2''
    rw [h1, Nat.mul_one] at h5 h6
    simp only [List.length_map] at h3 h6
    obtain ⟨hk, cur', hc1, hc2, hc3⟩ := sorted_world enc (n := m) (os := os) (d := ys.toArray) hg (by simp; omega)
    refine ⟨hk.mono fun k _ hk => by rw [show k = g from hk]; rfl, flat_len E _, .inr ⟨g, c, cur', by rw [hn]; simp [hl], Nat.zero_le _, hc1, by simp; omega, h4, by rw [hc2, h5, h1, Nat.mul_one], ?_⟩⟩
    rw [hfl, h1, Nat.mul_one]
    simpa using hc3
end Go.Cw
/-
  SORTED ROWS of elements of k cells.
-/
set_option linter.unusedVariables false
set_option linter.unusedSectionVars false
set_option linter.unusedSimpArgs false
namespace Go.Cw
open Go.Sort Go.Proofs
theorem flatK_list {β : Type} [Inhabited β] (enc : β → List Value) (k : Nat) (hk : ∀ x, (enc x).length = k) (h0 : 0 < k) (d : Array β) : (flatK enc k d).toList = d.toList.flatMap enc := by
  have gen : ∀ (l : List β) (t : Nat), t < l.length * k → (l.flatMap enc)[t]? = some ((enc (l[t / k]!))[t % k]!) := by
    intro l
    induction l with
    | nil => intro t ht; simp at ht
    | cons x r ih =>
      intro t ht
      rw [List.flatMap_cons]
      by_cases h : t < k
      · rw [List.getElem?_append_left (by rw [hk]; exact h), Nat.div_eq_of_lt h, Nat.mod_eq_of_lt h]
        simp [hk, h]
      · rw [List.getElem?_append_right (by rw [hk]; omega), hk, ih (t - k) (by rw [List.length_cons, Nat.succ_mul] at ht; omega)]
        have e1 : t / k = (t - k) / k + 1 := by
          rw [Nat.div_eq_sub_div h0 (by omega)]
        have e2 : t % k = (t - k) % k := Nat.mod_eq_sub_mod (by omega)
        rw [e1, e2]; simp
  apply List.ext_getElem?
  intro t
  by_cases ht : t < d.size * k
  · rw [gen d.toList t (by simpa using ht), Array.getElem?_toList]
    have hd : t / k < d.size := by rw [Nat.div_lt_iff_lt_mul h0]; exact ht
    have e : d.toList[t / k]! = d[t / k]! := by simp [hd]
    rw [e]
    simp only [flatK, Array.getElem?_map, Array.getElem?_range, ht, if_true, Option.map_some]
  · have hfl : ∀ l : List β, (l.flatMap enc).length = l.length * k := fun l => by
      induction l with
      | nil => simp
      | cons x r ih => rw [List.flatMap_cons, List.length_append, ih, hk, List.length_cons, Nat.succ_mul]; omega
    rw [List.getElem?_eq_none (by simp; omega), List.getElem?_eq_none (by rw [hfl]; simp; omega)]

theorem flat_flatK {P : Program} {α : Type} (E : El P α) {β : Type} [Inhabited β] (f : β → α) (d : Array β) : flat E (d.toList.map f) = (flatK (fun x => (E.enc (f x)).cells.toList) E.size d).toList := by
  rw [flatK_list _ _ (fun x => by have := E.cells (f x); simpa using this) E.pos]
  generalize d.toList = l
  induction l with
  | nil => rfl
  | cons x r ih => rw [List.map_cons, List.flatMap_cons, ← ih]; rfl
theorem holdsK_own {P : Program} {α : Type} (E : El P α) {β : Type} [Inhabited β] (f : β → α) {w : World} {g n c : Nat} {d : Array β} (h : (own E (.slice (some ⟨g, 0, none⟩) n c) (d.toList.map f)).holds w) :
    HoldsK (fun x => (E.enc (f x)).cells.toList) E.size w g 0 d := fun j hj => by
  have hc := h.cells (g := g) rfl j ((flatK (fun x => (E.enc (f x)).cells.toList) E.size d)[j]!) (by
    rw [flat_flatK, Array.getElem?_toList]
    simp only [size_flatK] at hj
    simp [hj])
  rcases h.2 with ⟨h2, _⟩ | ⟨g', cap, cur, h2, _, hg, _⟩
  · cases h2
  · injection h2 with h2; injection h2 with h2; injection h2 with h2
    subst h2
    refine ⟨?_, ?_⟩
    · rw [Nat.zero_add]
      have := hc
      rw [add_at, Nat.zero_add] at this
      exact this
    · exact frozen_of_row w g _ cur _ hg
theorem own_sortedK {P : Program} {α : Type} (E : El P α) {β : Type} [Inhabited β] (f : β → α) {w : World} {g n c m : Nat} {d d' : Array β} {os : Array Obj} (h : (own E (.slice (some ⟨g, 0, none⟩) n c) (d.toList.map f)).holds w) (hl : d'.size = d.size) :
    Keep (own E (.slice (some ⟨g, 0, none⟩) n c) (d.toList.map f)).fp w (grow (putRowK (fun x => (E.enc (f x)).cells.toList) E.size (Sort.ahead w m) g 0 d') os) ∧ (own E (.slice (some ⟨g, 0, none⟩) n c) (d'.toList.map f)).holds (grow (putRowK (fun x => (E.enc (f x)).cells.toList) E.size (Sort.ahead w m) g 0 d') os) := by
  have hn := (own_slA h).2.1
  rcases h.2 with ⟨h2, _⟩ | ⟨g', cap, cur, h2, _, hg, h3, h4, h5, h6⟩
  · cases h2
  · injection h2 with h2 h2' h2''; injection h2 with h2; injection h2 with h2
    subst h2 h2''
    simp only [List.length_map, Array.length_toList] at h3 h6 hn
    have hle : d'.size * E.size ≤ cur.size := by rw [h5, hl]; exact Nat.mul_le_mul_right _ h3
    obtain ⟨hk, cur', hc1, hc2, hc3⟩ := sorted_world id (n := m) (os := os) (d := flatK (fun x => (E.enc (f x)).cells.toList) E.size d') hg (by rw [size_flatK]; exact hle)
    refine ⟨hk.mono fun k _ hk => by rw [show k = g from hk]; rfl, flat_len E _, .inr ⟨g, c, cur', by simp [hn, hl], Nat.zero_le _, hc1, by simp; omega, h4, by rw [hc2, h5], ?_⟩⟩
    rw [flat_flatK, List.length_map, Array.length_toList]
    rw [size_flatK] at hc3
    simpa using hc3
end Go.Cw
/-
  A REGION THAT DRAWS, with loud operations that may come in several orders: a tree of orders.
-/
set_option linter.unusedVariables false
set_option linter.unusedSimpArgs false
namespace Go.Cw

/-- Operations in one order, then either of two ways on (a way begins with a loud operation, or is itself two ways). -/
inductive OT where
  | leaf (l : List (Nat × Kd3))
  | fork (l : List (Nat × Kd3)) (t1 t2 : OT)
def OT.size : OT → Nat
  | .leaf l => l.length
  | .fork l t1 _ => l.length + t1.size
def OT.heads : OT → List Nat
  | .leaf ((i, _) :: _) => [i]
  | .leaf [] => []
  | .fork [] t1 t2 => t1.heads ++ t2.heads
  | .fork ((i, _) :: _) _ _ => [i]
/-- The list is walked; then k. -/
def eagerRun (md : Region.Mode) (ops : Array Oper) (k : Array Bool → Bool) : List (Nat × Kd3) → Array Bool → Bool
  | [], listed => k listed
  | (i, .l) :: r, listed => (Region.ready md ops listed == [i]) && eagerRun md ops k r (listed.setIfInBounds i true)
  | (_, .b) :: _, _ => false
  | (i, .q) :: r, listed => (Region.ready md ops listed).contains i && Region.free md ops listed i && eagerRun md ops k r (listed.setIfInBounds i true)
mutual
def OT.ok (md : Region.Mode) (ops : Array Oper) : OT → Array Bool → Bool
  | .leaf l, listed => eagerRun md ops (fun li => (Region.ready md ops li).isEmpty) l listed
  | .fork l t1 t2, listed => eagerRun md ops (fun li => (Region.ready md ops li == t1.heads ++ t2.heads) && (t1.size == t2.size) && t1.okH md ops li && t2.okH md ops li) l listed
def OT.okH (md : Region.Mode) (ops : Array Oper) : OT → Array Bool → Bool
  | .leaf ((i, .l) :: r), listed => eagerRun md ops (fun li => (Region.ready md ops li).isEmpty) r (listed.setIfInBounds i true)
  | .leaf _, _ => false
  | .fork [] t1 t2, listed => (t1.size == t2.size) && t1.okH md ops listed && t2.okH md ops listed
  | .fork ((i, .l) :: r) t1 t2, listed => eagerRun md ops (fun li => (Region.ready md ops li == t1.heads ++ t2.heads) && (t1.size == t2.size) && t1.okH md ops li && t2.okH md ops li) r (listed.setIfInBounds i true)
  | .fork _ _ _, _ => false
end
section
variable {P : Program} {S : Nat → Prop} {ops : Array Oper} {Q : Exit → Act → World → Prop} {md : Region.Mode}
def onN (K : Act → World → Prop) : Exit → Act → World → Prop
  | .normal, a, w => K a w
  | _, _, _ => False
def WT (P : Program) (S : Nat → Prop) (ops : Array Oper) (Q : Exit → Act → World → Prop) : OT → Act → World → Prop
  | .leaf l, a, w => WQ P false S ops Q l a w
  | .fork l t1 t2, a, w => WQ P false S ops (onN fun a w => WT P S ops Q t1 a w ∧ WT P S ops Q t2 a w) l a w

/-- A list is walked, then what k promises. -/
theorem run_list (hs : Region.noSelect ops = true) {Q' : Exit → Act → World → Prop} {k : Array Bool → Bool} {n : Nat}
    (hk : ∀ listed a w, k listed = true → Q' .normal a w → wpAnyK P [] md S ops Q n listed a w) : ∀ (l : List (Nat × Kd3)) (listed : Array Bool) (a : Act) (w : World),
    eagerRun md ops k l listed = true → WQ P false S ops Q' l a w → wpAnyK P [] md S ops Q (l.length + n) listed a w
  | [], listed, a, w, hB, h => by
    rw [List.length_nil, Nat.zero_add]; exact hk listed a w hB h
  | (i, .l) :: r, listed, a, w, hB, h => by
    simp only [eagerRun, Bool.and_eq_true, beq_iff_eq] at hB
    obtain ⟨o, ho, h⟩ := h
    rw [List.length_cons, Nat.add_right_comm]
    refine ⟨fun h0 => (by rw [h0] at hB; cases hB.1), fun j hj => ?_⟩
    rw [hB.1] at hj
    obtain rfl : j = i := by simpa using hj
    unfold opK
    simp only [ho]
    split
    · rename_i hw
      simp only [hw, if_true] at h
      have h' : o.wp P a w (fun a' w' => Keep S w w' ∧ WQ P false S ops Q' r a' w') (fun _ _ _ => False) := by simpa [QX, Dl] using h
      exact Oper.wp_mono (fun a' w' h => ⟨.inr h.1, run_list hs hk r _ a' w' hB.2 h.2⟩) h'
    · rename_i hw
      simp only [hw] at h
      exact run_list hs hk r _ _ _ hB.2 h
  | (_, .b) :: _, _, _, _, hB, _ => by simp [eagerRun] at hB
  | (i, .q) :: r, listed, a, w, hB, h => by
    simp only [eagerRun, Bool.and_eq_true] at hB
    obtain ⟨⟨hr, hf⟩, hB'⟩ := hB
    obtain ⟨o, ho, h⟩ := h
    rw [List.length_cons, Nat.add_right_comm]
    by_cases hw : Region.wanted o (yielded ops a.tmps) = true
    · simp only [hw, if_true] at h
      obtain ⟨v, hv, hn⟩ := h
      exact wpAnyK_first ho (Region.noSelect_spec hs) _ listed a w (Region.free_spec ho hf) (fun j hj => by simp at hj) (by simpa using hr) (.inl ⟨hw, fun w' hk => hv w' (by simpa [Cl] using hk)⟩)
        (run_list hs hk r _ _ _ hB' hn)
    · simp only [hw] at h
      exact wpAnyK_first ho (Region.noSelect_spec hs) _ listed a w (Region.free_spec ho hf) (fun j hj => by simp at hj) (by simpa using hr) (.inr ⟨by simpa using hw, rfl⟩)
        (run_list hs hk r _ _ _ hB' h)

theorem loud_then (hs : Region.noSelect ops = true) {Q' : Exit → Act → World → Prop} {k : Array Bool → Bool} {n i : Nat} {r : List (Nat × Kd3)} {listed : Array Bool} {a : Act} {w : World}
    (hk : ∀ listed a w, k listed = true → Q' .normal a w → wpAnyK P [] md S ops Q n listed a w) (hB : eagerRun md ops k r listed = true) (h : WQ P false S ops Q' ((i, .l) :: r) a w) : opK P [] S ops i (wpAnyK P [] md S ops Q (r.length + n) listed) a w := by
  obtain ⟨o, ho, h⟩ := h
  unfold opK
  simp only [ho]
  split
  · rename_i hw
    simp only [hw, if_true] at h
    have h' : o.wp P a w (fun a' w' => Keep S w w' ∧ WQ P false S ops Q' r a' w') (fun _ _ _ => False) := by simpa [QX, Dl] using h
    exact Oper.wp_mono (fun a' w' h => ⟨.inr h.1, run_list hs hk r _ a' w' hB h.2⟩) h'
  · rename_i hw
    simp only [hw] at h
    exact run_list hs hk r _ _ _ hB h
theorem OT.okH_pos : ∀ (t : OT) (listed : Array Bool), t.okH md ops listed = true → 0 < t.size ∧ t.heads ≠ []
  | .leaf ((i, .l) :: r), listed, _ => by simp [OT.size, OT.heads]
  | .leaf [], listed, h => by simp [OT.okH] at h
  | .leaf ((i, .q) :: r), listed, h => by simp [OT.okH] at h
  | .leaf ((i, .b) :: r), listed, h => by simp [OT.okH] at h
  | .fork [] t1 t2, listed, h => by
    simp only [OT.okH, Bool.and_eq_true] at h
    have := t1.okH_pos listed h.1.2
    exact ⟨by simp only [OT.size, List.length_nil]; omega, by simp only [OT.heads]; intro he; exact this.2 (List.append_eq_nil_iff.1 he).1⟩
  | .fork ((i, .l) :: r) t1 t2, listed, _ => by simp [OT.size, OT.heads]; omega
  | .fork ((i, .q) :: r) t1 t2, listed, h => by simp [OT.okH] at h
  | .fork ((i, .b) :: r) t1 t2, listed, h => by simp [OT.okH] at h
theorem done_at (listed : Array Bool) (a : Act) (w : World) (h : (Region.ready md ops listed).isEmpty = true) (hq : Q .normal a w) : wpAnyK P [] md S ops Q 0 listed a w := ⟨by simpa using h, hq⟩
theorem node_at {t1 t2 : OT} (listed : Array Bool) (a : Act) (w : World)
    (ih1 : t1.okH md ops listed = true → WT P S ops Q t1 a w → ∀ i ∈ t1.heads, opK P [] S ops i (wpAnyK P [] md S ops Q (t1.size - 1) (listed.setIfInBounds i true)) a w)
    (ih2 : t2.okH md ops listed = true → WT P S ops Q t2 a w → ∀ i ∈ t2.heads, opK P [] S ops i (wpAnyK P [] md S ops Q (t2.size - 1) (listed.setIfInBounds i true)) a w)
    (h : ((Region.ready md ops listed == t1.heads ++ t2.heads) && (t1.size == t2.size) && t1.okH md ops listed && t2.okH md ops listed) = true) (hq : WT P S ops Q t1 a w ∧ WT P S ops Q t2 a w) : wpAnyK P [] md S ops Q t1.size listed a w := by
  simp only [Bool.and_eq_true, beq_iff_eq] at h
  obtain ⟨⟨⟨hr, hsz⟩, h1⟩, h2⟩ := h
  have hp := t1.okH_pos listed h1
  obtain ⟨n, hn⟩ : ∃ n, t1.size = n + 1 := ⟨t1.size - 1, by omega⟩
  rw [hn]
  refine ⟨fun h0 => ?_, fun i hi => ?_⟩
  · rw [h0] at hr
    exact absurd (List.append_eq_nil_iff.1 hr.symm).1 hp.2
  · rw [hr] at hi
    rcases List.mem_append.1 hi with hi | hi
    · have := ih1 h1 hq.1 i hi
      rwa [hn, Nat.add_sub_cancel] at this
    · have := ih2 h2 hq.2 i hi
      rwa [← hsz, hn, Nat.add_sub_cancel] at this
theorem tree_head (hs : Region.noSelect ops = true) : ∀ (t : OT) (listed : Array Bool) (a : Act) (w : World), t.okH md ops listed = true → WT P S ops Q t a w → ∀ i ∈ t.heads, opK P [] S ops i (wpAnyK P [] md S ops Q (t.size - 1) (listed.setIfInBounds i true)) a w
  | .leaf ((i, .l) :: r), listed, a, w, hB, h, j, hj => by
    obtain rfl : j = i := by simpa [OT.heads] using hj
    have := loud_then hs (md := md) (n := 0) (fun li a w h1 h2 => done_at li a w h1 h2) (by simpa [OT.okH] using hB) h
    simpa [OT.size] using this
  | .leaf [], listed, a, w, hB, h, j, hj => by simp [OT.okH] at hB
  | .leaf ((i, .q) :: r), listed, a, w, hB, h, j, hj => by simp [OT.okH] at hB
  | .leaf ((i, .b) :: r), listed, a, w, hB, h, j, hj => by simp [OT.okH] at hB
  | .fork [] t1 t2, listed, a, w, hB, h, j, hj => by
    simp only [OT.okH, Bool.and_eq_true, beq_iff_eq] at hB
    obtain ⟨⟨hsz, h1⟩, h2⟩ := hB
    have hw : WT P S ops Q t1 a w ∧ WT P S ops Q t2 a w := h
    simp only [OT.size, List.length_nil, Nat.zero_add]
    rcases List.mem_append.1 hj with hj | hj
    · exact tree_head hs t1 listed a w h1 hw.1 j hj
    · rw [hsz]; exact tree_head hs t2 listed a w h2 hw.2 j hj
  | .fork ((i, .l) :: r) t1 t2, listed, a, w, hB, h, j, hj => by
    obtain rfl : j = i := by simpa [OT.heads] using hj
    have := loud_then hs (md := md) (n := t1.size) (fun li a w h1 h2 => node_at li a w (tree_head hs t1 li a w) (tree_head hs t2 li a w) h1 h2) (by simpa [OT.okH] using hB) h
    simp only [OT.size, List.length_cons]
    rw [show r.length + 1 + t1.size - 1 = r.length + t1.size from by omega]
    exact this
  | .fork ((i, .q) :: r) t1 t2, listed, a, w, hB, h, j, hj => by simp [OT.okH] at hB
  | .fork ((i, .b) :: r) t1 t2, listed, a, w, hB, h, j, hj => by simp [OT.okH] at hB
def OT.good (ops : Array Oper) (t : OT) : Bool := Region.noSelect ops && (t.size == ops.size) && t.ok .any ops (Array.replicate ops.size false)
theorem region_tree {id : Nat} {a : Act} {w : World} (S : Nat → Prop) (t : OT) (hm : P.follows .mixedOrders = true) (hl : t.good ops = true) (h : WT P S ops Q t a w.drew) : (Code.region id ops true).wp P Q a w := by
  simp only [OT.good, Bool.and_eq_true, beq_iff_eq] at hl
  obtain ⟨⟨hs, hsz⟩, hok⟩ := hl
  refine wp_region_any hm (wpAny_of_K _ _ _ _ (S := S) (Br := []) ?_)
  have key : wpAnyK P [] .any S ops Q t.size (Array.replicate ops.size false) a w.drew := by
    cases t with
    | leaf l =>
      have := run_list hs (md := .any) (n := 0) (fun li a w h1 h2 => done_at li a w h1 h2) l _ a w.drew (by simpa [OT.ok] using hok) h
      simpa [OT.size] using this
    | fork l t1 t2 =>
      exact run_list hs (md := .any) (n := t1.size) (fun li a w h1 h2 => node_at li a w (tree_head hs t1 li a w) (tree_head hs t2 li a w) h1 h2) l _ a w.drew (by simpa [OT.ok] using hok) h
  rw [hsz] at key
  exact key
/-- In the walk: the fork's two ways are two goals. -/
def EWT (P : Program) (S : Nat → Prop) (n : Nat) (ops : Array Oper) (Q : Exit → Act → World → Prop) (t : OT) (e : Env) (w : World) : Prop := ∀ a, Frm n a e → WT P S ops Q t a w
theorem CW.regionT {id n : Nat} {e : Env} {w : World} (S : Nat → Prop) (t : OT) (hm : P.follows .mixedOrders = true) (hl : t.good ops = true) (h : EWT P S n ops Q t e w.drew) : CW P n (.region id ops true) Q e w :=
  fun a ha => region_tree S t hm hl (h a ha)
theorem EWT.leaf {n : Nat} {l : List (Nat × Kd3)} {e : Env} {w : World} (h : EW P false S n ops Q l e w) : EWT P S n ops Q (.leaf l) e w := h
def QTr (P : Program) (S : Nat → Prop) (ops : Array Oper) (Q : Exit → Act → World → Prop) (t1 t2 : OT) : Exit → Act → World → Prop := onN fun a w => WT P S ops Q t1 a w ∧ WT P S ops Q t2 a w
theorem EWT.fork {n : Nat} {l : List (Nat × Kd3)} {t1 t2 : OT} {e : Env} {w : World} (h : EW P false S n ops (QTr P S ops Q t1 t2) l e w) : EWT P S n ops Q (.fork l t1 t2) e w := h
theorem EW.ways {m : Bool} {n : Nat} {t1 t2 : OT} {e : Env} {w : World} (h1 : EWT P S n ops Q t1 e w) (h2 : EWT P S n ops Q t2 e w) : EW P m S n ops (QTr P S ops Q t1 t2) [] e w := fun a ha => ⟨h1 a ha, h2 a ha⟩
end
end Go.Cw
/-
  TARJAN'S WALK, as numbers and lists alone: what holds between its steps, and that its parts are the strongest ones.
-/
set_option linter.unusedVariables false
set_option linter.unusedSimpArgs false
namespace Go.Cw

/-- b is reached from a. -/
inductive Rt (out : Nat → List Nat) (a : Nat) : Nat → Prop
  | refl : Rt out a a
  | step (b c : Nat) (h : Rt out a b) (hc : c ∈ out b) : Rt out a c
theorem Rt.trans {out : Nat → List Nat} {a b c : Nat} (h : Rt out a b) (k : Rt out b c) : Rt out a c := by
  induction k with
  | refl => exact h
  | step x y _ hy ih => exact .step x y ih hy
theorem Rt.one {out : Nat → List Nat} {a b : Nat} (h : b ∈ out a) : Rt out a b := .step a b .refl h
/-- A set that edges do not leave is not left. -/
theorem Rt.stays {out : Nat → List Nat} {a b : Nat} (C : Nat → Prop) (hC : ∀ v, C v → ∀ x ∈ out v, C x) (ha : C a) (h : Rt out a b) : C b := by
  induction h with
  | refl => exact ha
  | step x y _ hy ih => exact hC x ih y hy

structure TJ where
  num : Nat → Nat
  low : Nat → Nat
  opn : List Nat
  met : Nat
  parts : List (List Nat)
def upd (f : Nat → Nat) (v x : Nat) : Nat → Nat := fun u => if u = v then x else f u
theorem upd_at (f : Nat → Nat) (v x : Nat) : upd f v x v = x := if_pos rfl
theorem upd_ne (f : Nat → Nat) {v u : Nat} (x : Nat) (h : u ≠ v) : upd f v x u = f u := if_neg h
def TJ.meet (t : TJ) (v : Nat) : TJ := { t with num := upd t.num v (t.met + 1), low := upd t.low v (t.met + 1), opn := t.opn ++ [v], met := t.met + 1 }
def TJ.lower (t : TJ) (v x : Nat) : TJ := { t with low := upd t.low v (min (t.low v) x) }
def TJ.close (t : TJ) (pre part : List Nat) : TJ := { t with opn := pre, parts := t.parts ++ [part] }
abbrev Way := List (Nat × Nat)
def grey (way : Way) : List Nat := way.map (·.1)

structure TInv (n : Nat) (out : Nat → List Nat) (t : TJ) (way : Way) : Prop where
  numle : ∀ v, t.num v ≤ t.met
  inj : ∀ u v, 0 < t.num u → t.num u = t.num v → u = v
  lt : ∀ v, 0 < t.num v → v < n
  opnum : ∀ v ∈ t.opn, 0 < t.num v
  opsort : t.opn.Pairwise fun u v => t.num u < t.num v
  wsort : (grey way).Pairwise fun u v => t.num u < t.num v
  wopen : ∀ p ∈ way, p.1 ∈ t.opn
  wtaken : ∀ p ∈ way, p.2 ≤ (out p.1).length
  whead : t.opn.head? = (grey way).head?
  vis : ∀ v, 0 < t.num v → v ∈ t.opn ∨ ∃ p ∈ t.parts, v ∈ p
  cl : ∀ p ∈ t.parts, ∀ v ∈ p, 0 < t.num v ∧ v ∉ t.opn
  clsucc : ∀ p ∈ t.parts, ∀ v ∈ p, ∀ x ∈ out v, ∃ q ∈ t.parts, x ∈ q
  scc : ∀ p ∈ t.parts, p ≠ [] ∧ p.Nodup ∧ ∀ u ∈ p, ∀ v, v ∈ p ↔ Rt out u v ∧ Rt out v u
  apart : t.parts.Pairwise fun p q => ∀ v ∈ p, v ∉ q
  psort : ∀ p ∈ t.parts, p.Pairwise fun a b => a ≤ b
  A : ∀ g ∈ grey way, ∀ w, t.num g ≤ t.num w → Rt out g w
  lowle : ∀ u ∈ t.opn, t.low u ≤ t.num u
  E : ∀ u ∈ t.opn, ∃ x ∈ t.opn, t.num x = t.low u ∧ Rt out u x
  F : ∀ u ∈ t.opn, u ∉ grey way → t.low u < t.num u
  C : ∀ w ∈ t.opn, w ∉ grey way → ∀ g ∈ grey way, t.num g < t.num w → (∀ g' ∈ grey way, t.num g' < t.num w → t.num g' ≤ t.num g) → t.low g ≤ t.low w
  Dg : ∀ p ∈ way, ∀ x ∈ (out p.1).take p.2, 0 < t.num x ∧ (x ∈ t.opn → t.low p.1 ≤ t.num x)
  Dn : ∀ u ∈ t.opn, u ∉ grey way → ∀ x ∈ out u, 0 < t.num x ∧ (x ∈ t.opn → t.low u ≤ t.num x)

theorem grey_app (a b : Way) : grey (a ++ b) = grey a ++ grey b := by simp [grey]
theorem grey_one (v k : Nat) : grey [(v, k)] = [v] := rfl
theorem mem_grey {way : Way} {v : Nat} : v ∈ grey way ↔ ∃ k, (v, k) ∈ way := by
  simp [grey]

section
variable {n : Nat} {out : Nat → List Nat} {t : TJ} {W : Way} {v k : Nat}

theorem TInv.gopen {way : Way} (h : TInv n out t way) : ∀ g ∈ grey way, g ∈ t.opn := fun g hg => by
  obtain ⟨k, hk⟩ := mem_grey.1 hg
  exact h.wopen _ hk
theorem TInv.top (h : TInv n out t (W ++ [(v, k)])) : ∀ g ∈ grey W, t.num g < t.num v := fun g hg => by
  have := h.wsort
  rw [grey_app, grey_one] at this
  exact (List.pairwise_append.1 this).2.2 g hg v (by simp)
theorem TInv.top_le (h : TInv n out t (W ++ [(v, k)])) : ∀ g ∈ grey (W ++ [(v, k)]), t.num g ≤ t.num v := fun g hg => by
  rw [grey_app, grey_one] at hg
  rcases List.mem_append.1 hg with hg | hg
  · exact Nat.le_of_lt (h.top g hg)
  · rw [List.mem_singleton.1 hg]; exact Nat.le_refl _
theorem TInv.vopen (h : TInv n out t (W ++ [(v, k)])) : v ∈ t.opn := h.wopen (v, k) (by simp)

/-- A node that was not met is opened: behind the last on the way (an edge leads to it), or as the first. -/
theorem TInv.meet (h : TInv n out t W) {x : Nat} (hx : t.num x = 0) (hxn : x < n) (hr : W = [] ∨ ∀ g ∈ grey W, Rt out g x) (hW0 : W = [] → t.opn = []) : TInv n out (t.meet x) (W ++ [(x, 0)]) := by
  have hne : ∀ u, 0 < t.num u → u ≠ x := fun u hu e => by rw [e, hx] at hu; omega
  have nu : ∀ u, u ≠ x → (t.meet x).num u = t.num u := fun u hu => upd_ne _ _ hu
  have lu : ∀ u, u ≠ x → (t.meet x).low u = t.low u := fun u hu => upd_ne _ _ hu
  have nx : (t.meet x).num x = t.met + 1 := upd_at _ _ _
  have lx : (t.meet x).low x = t.met + 1 := upd_at _ _ _
  have pos : ∀ u, 0 < t.num u → 0 < (t.meet x).num u := fun u hu => by rw [nu u (hne u hu)]; exact hu
  have ope : ∀ u, u ∈ (t.meet x).opn ↔ u ∈ t.opn ∨ u = x := fun u => by simp [TJ.meet]
  have ono : ∀ u ∈ t.opn, u ≠ x := fun u hu => hne u (h.opnum u hu)
  have gry : ∀ u, u ∈ grey (W ++ [(x, 0)]) ↔ u ∈ grey W ∨ u = x := fun u => by simp [grey]
  have nle : ∀ u, (t.meet x).num u ≤ t.met + 1 := fun u => by
    by_cases hu : u = x
    · rw [hu, nx]; exact Nat.le_refl _
    · rw [nu u hu]; exact Nat.le_succ_of_le (h.numle u)
  refine ⟨nle, ?_, ?_, ?_, ?_, ?_, ?_, ?_, ?_, ?_, ?_, h.clsucc, h.scc, h.apart, h.psort, ?_, ?_, ?_, ?_, ?_, ?_, ?_⟩
  · intro u w hu he
    by_cases h1 : u = x <;> by_cases h2 : w = x
    · rw [h1, h2]
    · rw [h1, nx, nu w h2] at he; have := h.numle w; omega
    · rw [h2, nx, nu u h1] at he; have := h.numle u; omega
    · rw [nu u h1] at hu he; rw [nu w h2] at he; exact h.inj u w hu he
  · intro u hu
    by_cases h1 : u = x
    · rw [h1]; exact hxn
    · rw [nu u h1] at hu; exact h.lt u hu
  · intro u hu
    rcases (ope u).1 hu with h1 | h1
    · exact pos u (h.opnum u h1)
    · rw [h1, nx]; omega
  · show (t.opn ++ [x]).Pairwise _
    refine List.pairwise_append.2 ⟨h.opsort.imp_of_mem fun {a b} ha hb hab => ?_, by simp, fun a ha b hb => ?_⟩
    · rw [nu a (ono a ha), nu b (ono b hb)]; exact hab
    · rw [List.mem_singleton.1 hb, nx, nu a (ono a ha)]; have := h.numle a; omega
  · rw [grey_app, grey_one]
    refine List.pairwise_append.2 ⟨h.wsort.imp_of_mem fun {a b} ha hb hab => ?_, by simp, fun a ha b hb => ?_⟩
    · rw [nu a (ono a (h.gopen a ha)), nu b (ono b (h.gopen b hb))]; exact hab
    · rw [List.mem_singleton.1 hb, nx, nu a (ono a (h.gopen a ha))]; have := h.numle a; omega
  · intro p hp
    rcases List.mem_append.1 hp with hp | hp
    · exact (ope _).2 (.inl (h.wopen p hp))
    · rw [List.mem_singleton.1 hp]; exact (ope _).2 (.inr rfl)
  · intro p hp
    rcases List.mem_append.1 hp with hp | hp
    · exact h.wtaken p hp
    · rw [List.mem_singleton.1 hp]; exact Nat.zero_le _
  · show (t.opn ++ [x]).head? = _
    rw [grey_app, grey_one]
    cases hW : W with
    | nil => rw [hW0 hW]; rfl
    | cons q r =>
      have := h.whead
      rw [hW] at this
      cases ho : t.opn with
      | nil => rw [ho] at this; simp [grey] at this
      | cons y s => rw [ho] at this; simpa [grey] using this
  · intro u hu
    by_cases h1 : u = x
    · exact .inl ((ope u).2 (.inr h1))
    · rw [nu u h1] at hu
      exact (h.vis u hu).imp (fun h2 => (ope u).2 (.inl h2)) id
  · intro p hp u hu
    obtain ⟨h1, h2⟩ := h.cl p hp u hu
    refine ⟨pos u h1, fun h3 => ?_⟩
    rcases (ope u).1 h3 with h3 | h3
    · exact h2 h3
    · exact hne u h1 h3
  · intro g hg w hw
    rcases (gry g).1 hg with hg | hg
    · rw [nu g (ono g (h.gopen g hg))] at hw
      by_cases h1 : w = x
      · rw [h1]
        rcases hr with hr | hr
        · rw [hr] at hg; simp [grey] at hg
        · exact hr g hg
      · rw [nu w h1] at hw; exact h.A g hg w hw
    · rw [hg, nx] at hw
      by_cases h1 : w = x
      · rw [h1, hg]; exact .refl
      · rw [nu w h1] at hw; have := h.numle w; omega
  · intro u hu
    by_cases h1 : u = x
    · rw [h1, lx, nx]; exact Nat.le_refl _
    · rw [lu u h1, nu u h1]; exact h.lowle u (((ope u).1 hu).resolve_right h1)
  · intro u hu
    by_cases h1 : u = x
    · exact ⟨x, (ope x).2 (.inr rfl), by rw [h1, lx, nx], by rw [h1]; exact .refl⟩
    · obtain ⟨y, hy, he, hrt⟩ := h.E u (((ope u).1 hu).resolve_right h1)
      exact ⟨y, (ope y).2 (.inl hy), by rw [nu y (ono y hy), lu u h1]; exact he, hrt⟩
  · intro u hu hg
    have hg' := fun hh => hg ((gry u).2 hh)
    have h1 : u ≠ x := fun e => hg' (.inr e)
    rw [lu u h1, nu u h1]
    exact h.F u (((ope u).1 hu).resolve_right h1) (fun hh => hg' (.inl hh))
  · intro w hw hwg g hg hlt hmax
    have hg' := fun hh => hwg ((gry w).2 hh)
    have h1 : w ≠ x := fun e => hg' (.inr e)
    have hwo : w ∈ t.opn := ((ope w).1 hw).resolve_right h1
    have h2 : g ≠ x := fun e => by rw [e, nx, nu w h1] at hlt; have := h.numle w; omega
    have hgW : g ∈ grey W := ((gry g).1 hg).resolve_right h2
    rw [lu g h2, lu w h1]
    rw [nu g h2, nu w h1] at hlt
    refine h.C w hwo (fun hh => hg' (.inl hh)) g hgW hlt fun g' hg'' hlt' => ?_
    have h3 := ono g' (h.gopen g' hg'')
    have := hmax g' ((gry g').2 (.inl hg'')) (by rw [nu g' h3, nu w h1]; exact hlt')
    rwa [nu g' h3, nu g h2] at this
  · intro p hp y hy
    rcases List.mem_append.1 hp with hp | hp
    · obtain ⟨h1, h2⟩ := h.Dg p hp y hy
      refine ⟨pos y h1, fun ho => ?_⟩
      have h3 := ono p.1 (h.wopen p hp)
      rw [lu p.1 h3, nu y (hne y h1)]
      exact h2 (((ope y).1 ho).resolve_right (hne y h1))
    · rw [List.mem_singleton.1 hp] at hy; simp at hy
  · intro u hu hg y hy
    have hg' := fun hh => hg ((gry u).2 hh)
    have h1 : u ≠ x := fun e => hg' (.inr e)
    obtain ⟨h2, h3⟩ := h.Dn u (((ope u).1 hu).resolve_right h1) (fun hh => hg' (.inl hh)) y hy
    refine ⟨pos y h2, fun ho => ?_⟩
    rw [lu u h1, nu y (hne y h2)]
    exact h3 (((ope y).1 ho).resolve_right (hne y h2))

theorem grey_again (W : Way) (v k k' : Nat) : grey (W ++ [(v, k)]) = grey (W ++ [(v, k')]) := by simp [grey]
theorem take_next {l : List Nat} {k x : Nat} (hk : l[k]? = some x) : ∀ y ∈ l.take (k + 1), y ∈ l.take k ∨ y = x := fun y hy => by
  rw [List.take_add_one, hk] at hy
  simpa using hy

/-- An edge is taken, to a node that is met; the node's low is the least. -/
theorem TInv.edge (h : TInv n out t (W ++ [(v, k)])) {x : Nat} (hk : (out v)[k]? = some x) (hx : 0 < t.num x) (t' : TJ) (hn : t'.num = t.num) (ho : t'.opn = t.opn) (hm : t'.met = t.met) (hp : t'.parts = t.parts)
    (hl : ∀ u, u ≠ v → t'.low u = t.low u) (hv : t'.low v ≤ t.low v) (hE : t'.low v = t.low v ∨ t'.low v = t.num x ∧ x ∈ t.opn) (hD : x ∈ t.opn → t'.low v ≤ t.num x) : TInv n out t' (W ++ [(v, k + 1)]) := by
  have hgr := grey_again W v k (k + 1)
  have hkl : k < (out v).length := (List.getElem?_eq_some_iff.1 hk).1
  have hvo := h.vopen
  have hvg : v ∈ grey (W ++ [(v, k)]) := by simp [grey]
  have hll : ∀ u, t'.low u ≤ t.low u := fun u => by
    by_cases hu : u = v
    · rw [hu]; exact hv
    · rw [hl u hu]; exact Nat.le_refl _
  have hWv : ∀ p ∈ W, p.1 ≠ v := fun p hpm e => by
    have := h.top p.1 (mem_grey.2 ⟨p.2, hpm⟩)
    rw [e] at this; omega
  refine ⟨?_, ?_, ?_, ?_, ?_, ?_, ?_, ?_, ?_, ?_, ?_, ?_, ?_, ?_, ?_, ?_, ?_, ?_, ?_, ?_, ?_, ?_⟩
  · rw [hn, hm]; exact h.numle
  · rw [hn]; exact h.inj
  · rw [hn]; exact h.lt
  · rw [hn, ho]; exact h.opnum
  · rw [hn, ho]; exact h.opsort
  · rw [hn, ← hgr]; exact h.wsort
  · rw [ho]
    intro p hpm
    rcases List.mem_append.1 hpm with hpm | hpm
    · exact h.wopen p (by simp [hpm])
    · rw [List.mem_singleton.1 hpm]; exact hvo
  · intro p hpm
    rcases List.mem_append.1 hpm with hpm | hpm
    · exact h.wtaken p (by simp [hpm])
    · rw [List.mem_singleton.1 hpm]; exact hkl
  · rw [ho, ← hgr]; exact h.whead
  · rw [hn, ho, hp]; exact h.vis
  · rw [hn, ho, hp]; exact h.cl
  · rw [hp]; exact h.clsucc
  · rw [hp]; exact h.scc
  · rw [hp]; exact h.apart
  · rw [hp]; exact h.psort
  · rw [hn, ← hgr]; exact h.A
  · rw [hn, ho]; exact fun u hu => Nat.le_trans (hll u) (h.lowle u hu)
  · rw [hn, ho]
    intro u hu
    by_cases h1 : u = v
    · subst h1
      rcases hE with hE | ⟨hE, hxo⟩
      · rw [hE]; exact h.E _ hu
      · exact ⟨x, hxo, by rw [hE], .one (List.mem_of_getElem? hk)⟩
    · rw [hl u h1]; exact h.E u hu
  · rw [hn, ho, ← hgr]; exact fun u hu hg => Nat.lt_of_le_of_lt (hll u) (h.F u hu hg)
  · rw [hn, ho, ← hgr]
    intro w hw hwg g hg hlt hmax
    have hwv : w ≠ v := fun e => hwg (e ▸ hvg)
    rw [hl w hwv]
    exact Nat.le_trans (hll g) (h.C w hw hwg g hg hlt hmax)
  · rw [hn, ho]
    intro p hpm y hy
    rcases List.mem_append.1 hpm with hpm | hpm
    · obtain ⟨h1, h2⟩ := h.Dg p (by simp [hpm]) y hy
      rw [hl p.1 (hWv p hpm)]
      exact ⟨h1, h2⟩
    · rw [List.mem_singleton.1 hpm] at hy ⊢
      rcases take_next hk y hy with hy | hy
      · obtain ⟨h1, h2⟩ := h.Dg (v, k) (by simp) y hy
        exact ⟨h1, fun ho => Nat.le_trans hv (h2 ho)⟩
      · rw [hy]; exact ⟨hx, hD⟩
  · rw [hn, ho, ← hgr]
    intro u hu hg y hy
    have hwv : u ≠ v := fun e => hg (e ▸ hvg)
    rw [hl u hwv]
    exact h.Dn u hu hg y hy
theorem TInv.edge_low (h : TInv n out t (W ++ [(v, k)])) {x : Nat} (hk : (out v)[k]? = some x) (hx : 0 < t.num x) (hxo : x ∈ t.opn) : TInv n out (t.lower v (t.num x)) (W ++ [(v, k + 1)]) := by
  have e : (t.lower v (t.num x)).low v = min (t.low v) (t.num x) := upd_at _ _ _
  refine h.edge hk hx _ rfl rfl rfl rfl (fun u hu => upd_ne _ _ hu) (by rw [e]; exact Nat.min_le_left _ _) ?_ (fun _ => by rw [e]; exact Nat.min_le_right _ _)
  rw [e]
  rcases Nat.le_total (t.low v) (t.num x) with h1 | h1
  · exact .inl (Nat.min_eq_left h1)
  · exact .inr ⟨Nat.min_eq_right h1, hxo⟩
theorem TInv.edge_closed (h : TInv n out t (W ++ [(v, k)])) {x : Nat} (hk : (out v)[k]? = some x) (hx : 0 < t.num x) (hxo : x ∉ t.opn) : TInv n out t (W ++ [(v, k + 1)]) :=
  h.edge hk hx t rfl rfl rfl rfl (fun _ _ => rfl) (Nat.le_refl _) (.inl rfl) (fun h => absurd h hxo)
/-- An edge to a node that was not met. -/
theorem TInv.edge_new (h : TInv n out t (W ++ [(v, k)])) {x : Nat} (hk : (out v)[k]? = some x) (hx : t.num x = 0) (hxn : x < n) : TInv n out (t.meet x) (W ++ [(v, k + 1)] ++ [(x, 0)]) := by
  have hgr := grey_again W v k (k + 1)
  have hkl : k < (out v).length := (List.getElem?_eq_some_iff.1 hk).1
  have hm := h.meet hx hxn (.inr fun g hg => (h.A g hg v (h.top_le g hg)).trans (.one (List.mem_of_getElem? hk))) (fun e => absurd e (by simp))
  have hgr2 : grey (W ++ [(v, k)] ++ [(x, 0)]) = grey (W ++ [(v, k + 1)] ++ [(x, 0)]) := by rw [grey_app, hgr, ← grey_app]
  have hvx : v ≠ x := fun e => by
    have := h.opnum v h.vopen
    rw [e, hx] at this; omega
  refine ⟨hm.numle, hm.inj, hm.lt, hm.opnum, hm.opsort, hgr2 ▸ hm.wsort, ?_, ?_, hgr2 ▸ hm.whead, hm.vis, hm.cl, hm.clsucc, hm.scc, hm.apart, hm.psort, hgr2 ▸ hm.A, hm.lowle, hm.E, hgr2 ▸ hm.F, hgr2 ▸ hm.C, ?_, hgr2 ▸ hm.Dn⟩
  · intro p hp
    simp only [List.mem_append, List.mem_singleton] at hp
    rcases hp with (hp | hp) | hp
    · exact hm.wopen p (by simp [hp])
    · rw [hp]; exact hm.wopen (v, k) (by simp)
    · rw [hp]; exact hm.wopen (x, 0) (by simp)
  · intro p hp
    simp only [List.mem_append, List.mem_singleton] at hp
    rcases hp with (hp | hp) | hp
    · exact hm.wtaken p (by simp [hp])
    · rw [hp]; exact hkl
    · rw [hp]; exact Nat.zero_le _
  · intro p hp y hy
    simp only [List.mem_append, List.mem_singleton] at hp
    rcases hp with (hp | hp) | hp
    · exact hm.Dg p (by simp [hp]) y hy
    · rw [hp] at hy ⊢
      rcases take_next hk y hy with hy | hy
      · exact hm.Dg (v, k) (by simp) y hy
      · rw [hy]
        have e1 : (t.meet x).num x = t.met + 1 := upd_at _ _ _
        refine ⟨by rw [e1]; omega, fun _ => ?_⟩
        rw [e1]
        have h1 : (t.meet x).low v = t.low v := upd_ne _ _ hvx
        show (t.meet x).low v ≤ _
        rw [h1]
        exact Nat.le_trans (h.lowle v h.vopen) (Nat.le_succ_of_le (h.numle v))
    · rw [hp] at hy; simp at hy

/-- The last on the way is done, and stays open. -/
theorem TInv.pop (h : TInv n out t (W ++ [(v, k)])) (hk : k = (out v).length) (hlow : t.low v ≠ t.num v) : ∃ W' u j, W = W' ++ [(u, j)] ∧ TInv n out (t.lower u (t.low v)) W := by
  have hvo := h.vopen
  have hlt : t.low v < t.num v := Nat.lt_of_le_of_ne (h.lowle v hvo) hlow
  have hWne : W ≠ [] := by
    intro hW
    subst hW
    have hh := h.whead
    obtain ⟨x, hx, he, _⟩ := h.E v hvo
    cases ho : t.opn with
    | nil => rw [ho] at hvo; simp at hvo
    | cons y r =>
      rw [ho] at hh
      have hyv : y = v := by simpa [grey] using hh
      have hs := h.opsort
      rw [ho] at hs hx
      rcases List.mem_cons.1 hx with hx | hx
      · rw [hx, hyv] at he; omega
      · have := (List.pairwise_cons.1 hs).1 x hx
        rw [hyv] at this; omega
  obtain ⟨W', ⟨u, j⟩, rfl⟩ : ∃ W' p, W = W' ++ [p] := ⟨W.dropLast, W.getLast hWne, (List.dropLast_concat_getLast hWne).symm⟩
  refine ⟨W', u, j, rfl, ?_⟩
  have huv : t.num u < t.num v := h.top u (by simp [grey])
  have hune : u ≠ v := fun e => by rw [e] at huv; omega
  have hug : u ∈ grey (W' ++ [(u, j)]) := by simp [grey]
  have hvng : v ∉ grey (W' ++ [(u, j)]) := fun hh => by have := h.top v hh; omega
  have hgs : ∀ g, g ∈ grey (W' ++ [(u, j)] ++ [(v, k)]) ↔ g ∈ grey (W' ++ [(u, j)]) ∨ g = v := fun g => by rw [grey_app (W' ++ [(u, j)]), grey_one]; simp
  have hwsort : (grey (W' ++ [(u, j)])).Pairwise fun a b => t.num a < t.num b := by
    have := h.wsort
    rw [grey_app (W' ++ [(u, j)])] at this
    exact (List.pairwise_append.1 this).1
  have hule : ∀ g ∈ grey (W' ++ [(u, j)]), t.num g ≤ t.num u := fun g hg => by
    rw [grey_app, grey_one] at hg hwsort
    rcases List.mem_append.1 hg with hg | hg
    · exact Nat.le_of_lt ((List.pairwise_append.1 hwsort).2.2 g hg u (by simp))
    · rw [List.mem_singleton.1 hg]; exact Nat.le_refl _
  have lu : ∀ w, w ≠ u → (t.lower u (t.low v)).low w = t.low w := fun w hw => upd_ne _ _ hw
  have luu : (t.lower u (t.low v)).low u = min (t.low u) (t.low v) := upd_at _ _ _
  have hll : ∀ w, (t.lower u (t.low v)).low w ≤ t.low w := fun w => by
    by_cases hw : w = u
    · rw [hw, luu]; exact Nat.min_le_left _ _
    · rw [lu w hw]; exact Nat.le_refl _
  have huo : u ∈ t.opn := h.gopen u ((hgs u).2 (.inl hug))
  refine ⟨h.numle, h.inj, h.lt, h.opnum, h.opsort, hwsort, fun p hp => h.wopen p (List.mem_append_left _ hp), fun p hp => h.wtaken p (List.mem_append_left _ hp), ?_, h.vis, h.cl, h.clsucc, h.scc, h.apart, h.psort,
    fun g hg => h.A g ((hgs g).2 (.inl hg)), fun w hw => Nat.le_trans (hll w) (h.lowle w hw), ?_, ?_, ?_, ?_, ?_⟩
  · have := h.whead
    rw [grey_app (W' ++ [(u, j)])] at this
    rw [show (t.lower u (t.low v)).opn = t.opn from rfl, this]
    cases W' <;> rfl
  · intro w hw
    by_cases h1 : w = u
    · subst h1
      show ∃ x ∈ t.opn, t.num x = _ ∧ _
      rw [luu]
      rcases Nat.le_total (t.low w) (t.low v) with h2 | h2
      · rw [Nat.min_eq_left h2]; exact h.E w hw
      · rw [Nat.min_eq_right h2]
        obtain ⟨x, hx, he, hr⟩ := h.E v hvo
        exact ⟨x, hx, he, (h.A w ((hgs w).2 (.inl hug)) v (Nat.le_of_lt huv)).trans hr⟩
    · show ∃ x ∈ t.opn, t.num x = _ ∧ _
      rw [lu w h1]; exact h.E w hw
  · intro w hw hg
    by_cases h1 : w = v
    · rw [h1, lu v (Ne.symm hune)]; exact hlt
    · exact Nat.lt_of_le_of_lt (hll w) (h.F w hw fun hh => ((hgs w).1 hh).elim hg h1)
  · intro w hw hwg g hg hltg hmax
    have hwu : w ≠ u := fun e => hwg (e ▸ hug)
    rw [lu w hwu]
    show (t.lower u (t.low v)).low g ≤ _
    change t.num g < t.num w at hltg
    change ∀ g' ∈ _, t.num g' < t.num w → t.num g' ≤ t.num g at hmax
    by_cases h1 : w = v
    · subst h1
      have hgu : g = u := by
        have h2 := hmax u hug huv
        have h3 := hule g hg
        exact h.inj g u (h.opnum g (h.gopen g ((hgs g).2 (.inl hg)))) (Nat.le_antisymm h3 h2)
      rw [hgu, luu]; exact Nat.min_le_right _ _
    · have hwng : w ∉ grey (W' ++ [(u, j)] ++ [(v, k)]) := fun hh => ((hgs w).1 hh).elim hwg h1
      by_cases h2 : t.num v < t.num w
      · have h3 : t.low v ≤ t.low w := h.C w hw hwng v ((hgs v).2 (.inr rfl)) h2 fun g' hg' _ => h.top_le g' hg'
        have hgu : g = u := by
          have h4 := hmax u hug (Nat.lt_trans huv h2)
          have h5 := hule g hg
          exact h.inj g u (h.opnum g (h.gopen g ((hgs g).2 (.inl hg)))) (Nat.le_antisymm h5 h4)
        rw [hgu, luu]; exact Nat.le_trans (Nat.min_le_right _ _) h3
      · refine Nat.le_trans (hll g) (h.C w hw hwng g ((hgs g).2 (.inl hg)) hltg fun g' hg' hl' => ?_)
        rcases (hgs g').1 hg' with h3 | h3
        · exact hmax g' h3 hl'
        · rw [h3] at hl'; exact absurd hl' h2
  · intro p hp y hy
    obtain ⟨h1, h2⟩ := h.Dg p (List.mem_append_left _ hp) y hy
    exact ⟨h1, fun ho => Nat.le_trans (hll _) (h2 ho)⟩
  · intro w hw hg y hy
    by_cases h1 : w = v
    · subst h1
      obtain ⟨h2, h3⟩ := h.Dg (w, k) (by simp) y (by rw [hk, List.take_length]; exact hy)
      exact ⟨h2, fun ho => Nat.le_trans (hll _) (h3 ho)⟩
    · obtain ⟨h2, h3⟩ := h.Dn w hw (fun hh => ((hgs w).1 hh).elim hg h1) y hy
      exact ⟨h2, fun ho => Nat.le_trans (hll _) (h3 ho)⟩

/-- The last on the way is done, and is the first of a part. -/
theorem TInv.close (h : TInv n out t (W ++ [(v, k)])) (hk : k = (out v).length) (hlow : t.low v = t.num v) {pre suf part : List Nat} (hop : t.opn = pre ++ v :: suf) (hpart : part.Perm (v :: suf)) (hsorted : part.Pairwise fun a b => a ≤ b) : TInv n out (t.close pre part) W ∧ (W = [] → pre = []) := by
  have hvo := h.vopen
  have hs := h.opsort
  rw [hop] at hs
  obtain ⟨hs1, hs2, hs3⟩ := List.pairwise_append.1 hs
  obtain ⟨hs4, hs5⟩ := List.pairwise_cons.1 hs2
  have hin : ∀ w, w ∈ v :: suf ↔ w ∈ t.opn ∧ t.num v ≤ t.num w := fun w => by
    rw [hop, List.mem_append]
    constructor
    · intro hw
      refine ⟨.inr hw, ?_⟩
      rcases List.mem_cons.1 hw with h1 | h1
      · rw [h1]; exact Nat.le_refl _
      · exact Nat.le_of_lt (hs4 w h1)
    · rintro ⟨h1 | h1, h2⟩
      · have := hs3 w h1 v (by simp); omega
      · exact h1
  have hpin : ∀ w, w ∈ part ↔ w ∈ t.opn ∧ t.num v ≤ t.num w := fun w => (hpart.mem_iff).trans (hin w)
  have hpre : ∀ w, w ∈ pre ↔ w ∈ t.opn ∧ t.num w < t.num v := fun w => by
    rw [hop, List.mem_append]
    constructor
    · intro hw; exact ⟨.inl hw, hs3 w hw v (by simp)⟩
    · rintro ⟨h1 | h1, h2⟩
      · exact h1
      · rcases List.mem_cons.1 h1 with h3 | h3
        · rw [h3] at h2; omega
        · have := hs4 w h3; omega
  have hvg : v ∈ grey (W ++ [(v, k)]) := by simp [grey]
  have hgs : ∀ g, g ∈ grey (W ++ [(v, k)]) ↔ g ∈ grey W ∨ g = v := fun g => by rw [grey_app, grey_one]; simp
  have hngrey : ∀ w, w ∈ t.opn → t.num v < t.num w → w ∉ grey (W ++ [(v, k)]) := fun w hw hlt hg => by have := h.top_le w hg; omega
  -- low of what is behind v
  have hlowge : ∀ w, w ∈ t.opn → t.num v ≤ t.num w → t.num v ≤ t.low w := fun w hw hle => by
    rcases Nat.eq_or_lt_of_le hle with h1 | h1
    · rw [← h.inj v w (h.opnum v hvo) h1, hlow]; exact Nat.le_refl _
    · rw [← hlow]
      exact h.C w hw (hngrey w hw h1) v hvg h1 fun g' hg' _ => h.top_le g' hg'
  have hback : ∀ m w, t.num w = m → w ∈ t.opn → t.num v ≤ t.num w → Rt out w v := by
    intro m
    induction m using Nat.strongRecOn with
    | _ m ih =>
      intro w hm hw hle
      rcases Nat.eq_or_lt_of_le hle with h1 | h1
      · rw [← h.inj v w (h.opnum v hvo) h1]; exact .refl
      · obtain ⟨x, hx, he, hr⟩ := h.E w hw
        have h2 := h.F w hw (hngrey w hw h1)
        have h3 := hlowge w hw hle
        exact hr.trans (ih (t.num x) (by omega) x rfl hx (by omega))
  have hfwd : ∀ w, t.num v ≤ t.num w → Rt out v w := h.A v hvg
  have hedge : ∀ w, w ∈ part → ∀ x ∈ out w, x ∈ part ∨ ∃ q ∈ t.parts, x ∈ q := fun w hw x hx => by
    obtain ⟨hwo, hle⟩ := (hpin w).1 hw
    have key : 0 < t.num x ∧ (x ∈ t.opn → t.low w ≤ t.num x) := by
      rcases Nat.eq_or_lt_of_le hle with h1 | h1
      · have := h.inj v w (h.opnum v hvo) h1
        subst this
        exact h.Dg (v, k) (by simp) x (by rw [hk, List.take_length]; exact hx)
      · exact h.Dn w hwo (hngrey w hwo h1) x hx
    rcases h.vis x key.1 with h1 | h1
    · exact .inl ((hpin x).2 ⟨h1, Nat.le_trans (hlowge w hwo hle) (key.2 h1)⟩)
    · exact .inr h1
  have hclosed : ∀ q ∈ t.parts, ∀ a ∈ q, ∀ b, Rt out a b → ∃ q' ∈ t.parts, b ∈ q' := fun q hq a ha b hr =>
    hr.stays (fun y => ∃ q' ∈ t.parts, y ∈ q') (fun y ⟨q', hq', hy⟩ x hx => h.clsucc q' hq' y hy x hx) ⟨q, hq, ha⟩
  have hsub : ∀ w ∈ pre, w ∈ t.opn := fun w hw => ((hpre w).1 hw).1
  have hgW : ∀ g ∈ grey W, g ∈ pre := fun g hg => (hpre g).2 ⟨h.gopen g ((hgs g).2 (.inl hg)), h.top g hg⟩
  have hprene : ∀ w ∈ pre, w ≠ v := fun w hw e => by have := ((hpre w).1 hw).2; rw [e] at this; omega
  have hng : ∀ w ∈ pre, w ∉ grey W → w ∉ grey (W ++ [(v, k)]) := fun w hw hg hh => ((hgs w).1 hh).elim hg (hprene w hw)
  refine ⟨⟨h.numle, h.inj, h.lt, fun w hw => h.opnum w (hsub w hw), hs1, ?_, fun p hp => hgW p.1 (mem_grey.2 ⟨p.2, hp⟩), fun p hp => h.wtaken p (List.mem_append_left _ hp), ?_, ?_, ?_, ?_, ?_, ?_, ?_,
    fun g hg => h.A g ((hgs g).2 (.inl hg)), fun w hw => h.lowle w (hsub w hw), ?_, fun w hw hg => h.F w (hsub w hw) (hng w hw hg), ?_, ?_, ?_⟩, ?_⟩
  · have := h.wsort
    rw [grey_app] at this
    exact (List.pairwise_append.1 this).1
  · show pre.head? = _
    have hh := h.whead
    rw [hop, grey_app, grey_one] at hh
    cases hp : pre with
    | nil =>
      cases hW : W with
      | nil => rfl
      | cons q r =>
        have := hgW q.1 (by rw [hW]; simp [grey])
        rw [hp] at this; simp at this
    | cons y r =>
      rw [hp] at hh
      cases hW : W with
      | nil =>
        rw [hW] at hh
        have : y = v := by simpa [grey] using hh
        exact absurd this (hprene y (by rw [hp]; simp))
      | cons q s => rw [hW] at hh; simpa [grey] using hh
  · intro w hw
    rcases h.vis w hw with h1 | ⟨p, hp, hwp⟩
    · rcases Nat.lt_or_ge (t.num w) (t.num v) with h2 | h2
      · exact .inl ((hpre w).2 ⟨h1, h2⟩)
      · exact .inr ⟨part, by simp [TJ.close], (hpin w).2 ⟨h1, h2⟩⟩
    · exact .inr ⟨p, by simp [TJ.close, hp], hwp⟩
  · intro p hp w hw
    rcases List.mem_append.1 hp with hp | hp
    · obtain ⟨h1, h2⟩ := h.cl p hp w hw
      exact ⟨h1, fun h3 => h2 (hsub w h3)⟩
    · rw [List.mem_singleton.1 hp] at hw
      obtain ⟨h1, h2⟩ := (hpin w).1 hw
      exact ⟨h.opnum w h1, fun h3 => by have := ((hpre w).1 h3).2; omega⟩
  · intro p hp w hw x hx
    show ∃ q ∈ t.parts ++ [part], _
    rcases List.mem_append.1 hp with hp | hp
    · obtain ⟨q, hq, hxq⟩ := h.clsucc p hp w hw x hx
      exact ⟨q, by simp [hq], hxq⟩
    · rw [List.mem_singleton.1 hp] at hw
      rcases hedge w hw x hx with h1 | ⟨q, hq, h1⟩
      · exact ⟨part, by simp, h1⟩
      · exact ⟨q, by simp [hq], h1⟩
  · intro p hp
    rcases List.mem_append.1 hp with hp | hp
    · exact h.scc p hp
    · rw [List.mem_singleton.1 hp]
      refine ⟨fun e => by rw [e] at hpart; have := hpart.length_eq; simp at this, (hpart.nodup_iff).2 (hs2.imp fun {a b} hab e => by rw [e] at hab; omega), fun u hu w => ?_⟩
      obtain ⟨hu1, hu2⟩ := (hpin u).1 hu
      constructor
      · intro hw
        obtain ⟨hw1, hw2⟩ := (hpin w).1 hw
        exact ⟨(hback _ u rfl hu1 hu2).trans (hfwd w hw2), (hback _ w rfl hw1 hw2).trans (hfwd u hu2)⟩
      · rintro ⟨h1, h2⟩
        have h3 : w ∈ part ∨ ∃ q ∈ t.parts, w ∈ q := h1.stays (fun y => y ∈ part ∨ ∃ q ∈ t.parts, y ∈ q) (fun y hy x hx => by
          rcases hy with hy | ⟨q, hq, hy⟩
          · exact hedge y hy x hx
          · exact .inr (h.clsucc q hq y hy x hx)) (.inl hu)
        rcases h3 with h3 | ⟨q, hq, h3⟩
        · exact h3
        · obtain ⟨q', hq', h4⟩ := hclosed q hq w h3 u h2
          exact absurd hu1 (h.cl q' hq' u h4).2
  · show (t.parts ++ [part]).Pairwise _
    refine List.pairwise_append.2 ⟨h.apart, by simp, fun p hp q hq w hw hw' => ?_⟩
    rw [List.mem_singleton.1 hq] at hw'
    exact (h.cl p hp w hw).2 ((hpin w).1 hw').1
  · intro p hp
    rcases List.mem_append.1 hp with hp | hp
    · exact h.psort p hp
    · rw [List.mem_singleton.1 hp]; exact hsorted
  · intro w hw
    show ∃ x ∈ pre, t.num x = t.low w ∧ _
    obtain ⟨x, hx, he, hr⟩ := h.E w (hsub w hw)
    have h1 := ((hpre w).1 hw).2
    have h2 := h.lowle w (hsub w hw)
    exact ⟨x, (hpre x).2 ⟨hx, by omega⟩, he, hr⟩
  · intro w hw hwg g hg hlt hmax
    refine h.C w (hsub w hw) (hng w hw hwg) g ((hgs g).2 (.inl hg)) hlt fun g' hg' hl' => ?_
    rcases (hgs g').1 hg' with h3 | h3
    · exact hmax g' h3 hl'
    · rw [h3] at hl'
      have := ((hpre w).1 hw).2
      change t.num v < t.num w at hl'
      omega
  · intro p hp y hy
    obtain ⟨h1, h2⟩ := h.Dg p (List.mem_append_left _ hp) y hy
    exact ⟨h1, fun ho => h2 (hsub y ho)⟩
  · intro w hw hg y hy
    obtain ⟨h1, h2⟩ := h.Dn w (hsub w hw) (hng w hw hg) y hy
    exact ⟨h1, fun ho => h2 (hsub y ho)⟩
  · intro hW
    subst hW
    have hh := h.whead
    rw [hop] at hh
    cases hp : pre with
    | nil => rfl
    | cons y r =>
      rw [hp] at hh
      have : y = v := by simpa [grey] using hh
      exact absurd this (hprene y (by rw [hp]; simp))
/-- What 'from' does to the one below behind a part: nothing. -/
theorem TInv.lower_same {u : Nat} (h : TInv n out t W) (hu : u ∈ grey W) {x : Nat} (hx : t.num u ≤ x) : t.lower u x = t := by
  have : t.low u ≤ x := Nat.le_trans (h.lowle u (h.gopen u hu)) hx
  unfold TJ.lower
  rw [Nat.min_eq_left this]
  have e : upd t.low u (t.low u) = t.low := by
    funext w; unfold upd; split
    · rename_i h; rw [h]
    · rfl
  rw [e]
end
end Go.Cw
/-
  MORE RULES: a store into a part of an element of a row.
-/
set_option linter.unusedVariables false
set_option linter.unusedSectionVars false
set_option linter.unusedSimpArgs false
namespace Go.Cw
section
variable {P : Program} {m : Bool} {S : Nat → Prop} {n : Nat} {ops : Array Oper} {Q : Exit → Act → World → Prop} {i d : Nat} {o : Oper} {l : List (Nat × Kd3)} {e : Env} {w w0 : World} {S0 : Nat → Prop} {H : List Res} {v : Value} {α : Type}
theorem flat_setF (E : El P α) : ∀ (xs : List α) (j : Nat) (y z : α) (off : Nat) (v : Value), xs[j]? = some y → off < E.size → (E.enc z).cells.toList = (E.enc y).cells.toList.set off v → flat E (xs.set j z) = (flat E xs).set (j * E.size + off) v
  | [], j, y, z, off, v, h, _, _ => by simp at h
  | x :: r, j, y, z, off, v, h, ho, hz => by
    have hlen : ∀ y : α, (E.enc y).cells.toList.length = E.size := fun y => by have := E.cells y; simpa using this
    have hf : flat E (x :: r) = (E.enc x).cells.toList ++ flat E r := rfl
    cases j with
    | zero =>
      have hxy : x = y := by simpa using h
      subst hxy
      rw [hf, Nat.zero_mul, Nat.zero_add, List.set_append_left _ _ (by rw [hlen]; exact ho), ← hz]
      rfl
    | succ j =>
      have h1 : flat E ((x :: r).set (j + 1) z) = (E.enc x).cells.toList ++ flat E (r.set j z) := rfl
      rw [h1, flat_setF E r j y z off v (by simpa using h) ho hz, hf, List.set_append_right _ _ (by rw [hlen, Nat.succ_mul]; omega), hlen]
      congr 2
      rw [Nat.succ_mul]; omega
/-- A store into a part of an element. -/
theorem EW.storeElF (E : El P α) (hs : St w0 S0 w H) (k : Nat) {A : Addr} {nn c j off : Nat} {xs : List α} {y z : α} {x u : Operand} {t : TypeId} {ag : Bool} [ht : TyI P t ag 1] (hj : xs[j]? = some y) (hoff : Nat.blt off E.size = true) (hz : (E.enc z).cells.toList = (E.enc y).cells.toList.set off v) (hv : v.cells.toList = [v]) (ho : ops[i]? = some o) (hop : o.op = .store t x u) (hg : wantedE ops e o = some true) (hd : o.dst = none)
    (hk : H[k]? = some (own E (.slice (some A) nn c) xs)) (hx : ev e x = some (.pointer (some ((A.add (j * E.size)).add off)))) (hy : ev e u = some v) (hS : m = true ∨ S A.block)
    (h : ∀ w', St w0 S0 w' (H.set k (own E (.slice (some A) nn c) (xs.set j z))) → EW P m S n ops Q l e w') : EW P m S n ops Q ((i, .l) :: l) e w := by
  obtain ⟨g, cs, rfl, rfl, hl, htk, hxc, hc, hs'⟩ := hs.open_ k hk
  have hkl : k < H.length := (List.getElem?_eq_some_iff.1 hk).1
  have hoff' : off < E.size := by simpa [Nat.blt_eq] using hoff
  have hjl : j < xs.length := (List.getElem?_eq_some_iff.1 hj).1
  have hone : ∀ q ∈ [v], q.oneCell' = true := fun q hq => by
    rw [List.mem_singleton.1 hq]
    refine one_enc E z v ?_
    rw [hz]
    have hlen : (E.enc y).cells.toList.length = E.size := by have := E.cells y; simpa using this
    exact List.mem_iff_getElem?.2 ⟨off, by rw [List.getElem?_set_self (by rw [hlen]; exact hoff')]⟩
  rw [add_at, add_at] at hx
  have hb : j * E.size + off + 1 ≤ xs.length * E.size := by
    have : j * E.size + E.size ≤ xs.length * E.size := by rw [← Nat.succ_mul]; exact Nat.mul_le_mul_right _ (by omega)
    omega
  have h2 : xs.length * E.size ≤ cs.length := by rw [hl]; exact Nat.mul_le_mul_right _ hxc
  refine EW.store (v := v) (cs := cs) (et := E.ty) hs' k ho hop hg hd hx (by rw [List.getElem?_set_self hkl]) hy hv rfl hone ?_ hS fun w' hs2 => h w' ?_
  · rw [Nat.ble_eq, Nat.zero_add]; show j * E.size + off + 1 ≤ cs.length; omega
  · rw [List.set_set, Nat.zero_add] at hs2
    have := hs2.close_ (E := E) k (by rw [List.getElem?_set_self hkl]) (xs.set j z) (by rw [setAt_len, hl]) (by
      rw [List.length_set, take_setAt, htk, flat_setF E xs j y z off v hj hoff' hz]; rfl) (by simpa using hxc) hc
    rw [List.set_set, List.length_set] at this
    exact this
theorem EW.makeFunc {fn : Fn} {xs : List Operand} {vs : List Value} (ho : ops[i]? = some o) (hop : o.op = .makeFunc fn #[] xs.toArray) (hg : wantedE ops e o = some true) (hd : o.dst = some d) (hdn : Nat.blt d n = true) (hx : evs e xs = some vs)
    (h : EW P m S n ops Q l ((d, .func fn #[] vs.toArray) :: e) w) : EW P m S n ops Q ((i, .q) :: l) e w :=
  EW.q ho hg hd hdn (fun a ha w' _ => by simp [Qt, execOp, hop, Instr.makeFunc, ← ha.evals hx]) h
theorem fold_setAt (off : Nat) : ∀ (vs : List Value) (s : Nat) (cs : List Value), ((vs.zipIdx s).foldl (fun (cs : Array Value) (p : Value × Nat) => cs.setIfInBounds (off + p.2) p.1) cs.toArray) = (setAt cs (off + s) vs).toArray
  | [], s, cs => rfl
  | v :: r, s, cs => by
    simp only [List.zipIdx_cons, List.foldl_cons, setAt, List.setIfInBounds_toArray]
    exact fold_setAt off r (s + 1) _
theorem fill_many (E : El P α) : ∀ (ys : List α) (s : Nat) (cs : List Value), (s + ys.length) * E.size ≤ cs.length →
    Instr.fill (fun i => some (i * E.size, E.size)) cs.toArray ((ys.zipIdx s).map fun p => (p.2, E.enc p.1)) = some (cs.take (s * E.size) ++ flat E ys ++ cs.drop ((s + ys.length) * E.size)).toArray
  | [], s, cs, h => by
    simp [Instr.fill, flat]
  | y :: r, s, cs, h => by
    have hlen : ∀ y : α, (E.enc y).cells.toList.length = E.size := fun y => by have := E.cells y; simpa using this
    have e1 : (s + 1) * E.size = s * E.size + E.size := by rw [Nat.succ_mul]
    have e2 : s + 1 + r.length = s + (y :: r).length := by simp only [List.length_cons]; omega
    have h1 : (s + 1) * E.size ≤ cs.length := Nat.le_trans (Nat.mul_le_mul_right _ (by simp only [List.length_cons]; omega)) h
    rw [List.zipIdx_cons, List.map_cons]
    simp only [Instr.fill]
    rw [if_neg (by simp [E.cells y]; omega)]
    have hz : ((E.enc y).cells.zipIdx.foldl (fun (cs : Array Value) (p : Value × Nat) => cs.setIfInBounds (s * E.size + p.2) p.1) cs.toArray) = (setAt cs (s * E.size) (E.enc y).cells.toList).toArray := by
      rw [← Array.foldl_toList, Array.toList_zipIdx]
      exact fold_setAt (s * E.size) (E.enc y).cells.toList 0 cs
    rw [hz, fill_many E r (s + 1) _ (by rw [setAt_len, e2]; exact h)]
    congr 2
    have h2 : s * E.size + (E.enc y).cells.toList.length ≤ cs.length := by rw [hlen]; omega
    have hsz : s * E.size ≤ cs.length := by omega
    have hf : flat E (y :: r) = (E.enc y).cells.toList ++ flat E r := rfl
    rw [setAt_eq _ _ _ h2, e2, hf, e1]
    have hl3 : (cs.take (s * E.size) ++ (E.enc y).cells.toList).length = s * E.size + E.size := by
      rw [List.length_append, hlen, List.length_take, Nat.min_eq_left hsz]
    rw [List.take_left' hl3]
    have e3 : (s + (y :: r).length) * E.size = (cs.take (s * E.size) ++ (E.enc y).cells.toList).length + r.length * E.size := by
      rw [hl3, List.length_cons, ← e1, ← Nat.add_mul]; congr 1; omega
    rw [e3, List.drop_length_add_append, List.drop_drop, hl3, hlen]
    simp only [List.append_assoc]
theorem run_lit_many (E : El P α) (t : TypeId) [ht : SlT P t E.ty] (ys : List α) (hne : 0 < ys.length) (w : World) (h24 : ys.length * E.size ≤ 2 ^ 24) :
    (Instr.buildSlice t ys.length (ys.zipIdx.map fun p => (p.2, E.enc p.1)).toArray).run P w = .ok (.slice (some ⟨w.heap.size, 0, none⟩) ys.length ys.length) (w.alloc (.cells (flat E ys).toArray E.ty)) := by
  obtain ⟨i, hi, hzz⟩ := Option.map_eq_some_iff.1 E.info
  simp only [Prod.mk.injEq] at hzz
  obtain ⟨hz, hs, hb⟩ := hzz
  refine run_buildSlice (P := P) w t E.ty ys.length _ (flat E ys).toArray i E.zero ht.u hi hz (by rw [hs]; omega) (by rw [hs]; exact Nat.ne_of_gt (Nat.mul_pos hne E.pos)) ?_
  have hl : (((Array.range (ys.length * i.size)).map (E.zero.cells[· % E.zero.cells.size]!)).toList).length = ys.length * E.size := by simp [hs]
  have := fill_many E ys 0 (((Array.range (ys.length * i.size)).map (E.zero.cells[· % E.zero.cells.size]!)).toList) (by rw [hl, Nat.zero_add]; exact Nat.le_refl _)
  rw [Nat.zero_mul, List.take_zero, Nat.zero_add, List.nil_append, List.drop_eq_nil_of_le (by rw [hl]; exact Nat.le_refl _), List.append_nil] at this
  rw [hs] at this ⊢
  rw [Array.toArray_toList] at this
  exact this
/-- A slice literal. -/
theorem EW.litN (E : El P α) (ys : List α) (hs : St w0 S0 w H) {k : Nat} {xs : List (Nat × Operand)} {t : TypeId} [ht : SlT P t E.ty] (ho : ops[i]? = some o) (hop : o.op = .buildSlice t k xs.toArray) (hk : ys.length = k) (hg : wantedE ops e o = some true) (hd : o.dst = some d) (hdn : Nat.blt d n = true)
    (hx : evs e (xs.map (·.2)) = some (ys.map E.enc)) (hi : xs.map (·.1) = List.range ys.length) (hne : Nat.blt 0 ys.length = true) (h24 : Nat.ble (ys.length * E.size) 16777216 = true)
    (h : ∀ b w', St w0 S0 w' (own E (.slice (some ⟨b, 0, none⟩) k k) ys :: H) → EW P m S n ops Q l ((d, .slice (some ⟨b, 0, none⟩) k k) :: e) w') : EW P m S n ops Q ((i, .l) :: l) e w := by
  have hne' : 0 < ys.length := by simpa [Nat.blt_eq] using hne
  have h24' : ys.length * E.size ≤ 16777216 := by simpa [Nat.ble_eq] using h24
  subst hk
  refine EW.lv (w1 := w.alloc (.cells (flat E ys).toArray E.ty)) ho hg hd hdn (fun a ha => ?_) (dl_of (Keep.alloc w _)) (h _ _ (hs.add (Keep.alloc w _) (R := own E (.slice (some ⟨w.heap.size, 0, none⟩) ys.length ys.length) ys) ⟨flat_len E ys, .inr ⟨w.heap.size, ys.length, (flat E ys).toArray, rfl, Nat.zero_le _, heap_alloc_new w _, Nat.le_refl _, ?_, by simp [flat_len], ?_⟩⟩ (fun b hb => by
      have : (Value.slice (some ⟨w.heap.size, 0, none⟩) ys.length ys.length).ownBlock = some b := hb
      cases hn : ys.length with
      | zero => omega
      | succ q => rw [hn] at this; simp [Value.ownBlock] at this; omega)))
  · have h2 := ha.evals hx
    have h3 : xs.map (fun p => (p.1, a.eval p.2)) = ys.zipIdx.map fun p => (p.2, E.enc p.1) := by
      apply List.ext_getElem?
      intro j
      have e1 := congrArg (fun l => l[j]?) h2
      have e2 := congrArg (fun l => l[j]?) hi
      simp only [List.getElem?_map, List.getElem?_zipIdx] at e1 e2 ⊢
      cases hxj : xs[j]? with
      | none =>
        rw [hxj] at e1
        cases hyj : ys[j]? with
        | none => rfl
        | some y => rw [hyj] at e1; simp at e1
      | some p =>
        rw [hxj] at e1 e2
        cases hyj : ys[j]? with
        | none => rw [hyj] at e1; simp at e1
        | some y =>
          rw [hyj] at e1
          have hj : j < ys.length := (List.getElem?_eq_some_iff.1 hyj).1
          simp only [Option.map_some, Option.some.injEq] at e1 e2 ⊢
          rw [List.getElem?_range hj] at e2
          simp only [Option.some.injEq] at e2
          simp [e1, e2]
    simp only [execOp, hop, List.map_toArray, h3]
    rw [Sem.run_bind, run_lit_many E t ys hne' w (by omega)]; rfl
  · have h1 : ys.length ≤ ys.length * E.size := Nat.le_mul_of_pos_right _ E.pos
    simp only [maxLen]; omega
  · simp only [List.take_of_length_le (Nat.le_of_eq (flat_len E ys))]
end
end Go.Cw
/-
  ARGUMENTS THAT ARE READ AS DATA, as the walk knows them; what a law leaves behind.
-/
set_option linter.unusedVariables false
set_option linter.unusedSectionVars false
namespace Go.Cw
open Go.ChangeShapes Go.WideShapes Go.RowKit

section
variable {H : Type} {P : Program}
/-- Cells of type t read as: what stands in them. -/
def Rds (enc : TypeId × Value → H) (P : Program) (w : World) (base : Nat) (sp : Nat → Bool) (held : Bool) (t : TypeId) {α : Type} (cells : α → List Value) (R : α → DataW H → Prop) : Prop :=
  ∀ n cs y, DataW.trod enc P w base sp held n t cs = some y → ∃ a, cs = cells a ∧ R a y.1
variable {enc : TypeId × Value → H} {w : World} {base : Nat} {sp : Nat → Bool} {held : Bool}
theorem rds_string {t : TypeId} (ht : P.underlying t = some .string) : Rds enc P w base sp held t (fun (s : ByteArray) => [.string s]) (fun s d => d = .lit (.string s.data.toList)) := fun n cs y h => by
  obtain ⟨s, h1, h2, _⟩ := DataW.trod_string ht h
  exact ⟨s, h1, by rw [h2]⟩
theorem rds_bool {t : TypeId} (ht : P.underlying t = some .bool) : Rds enc P w base sp held t (fun (b : Bool) => [.bool b]) (fun b d => d = .lit (.bool b)) := fun n cs y h => by
  obtain ⟨s, h1, h2⟩ := DataW.trod_bool ht h
  exact ⟨s, h1, by rw [h2]⟩
theorem rds_int {t : TypeId} {k : IntKind} (ht : P.underlying t = some (.int k)) : Rds enc P w base sp held t (fun (z : Int) => [.int k z]) (fun z d => d = .lit (.int k z) ∧ (Lit.int k z).wf = true) := fun n cs y h => by
  obtain ⟨s, h1, h2, h3⟩ := DataW.trod_int ht h
  exact ⟨s, h1, by rw [h2], h3⟩
theorem Rds.map {t : TypeId} {α β : Type} {cells : α → List Value} {R : α → DataW H → Prop} (h : Rds enc P w base sp held t cells R) {cells' : β → List Value} {R' : β → DataW H → Prop} (f : α → β) (hc : ∀ a, cells' (f a) = cells a) (hR : ∀ a d, R a d → R' (f a) d) : Rds enc P w base sp held t cells' R' := fun n cs y hy => by
  obtain ⟨a, h1, h2⟩ := h n cs y hy
  exact ⟨f a, by rw [hc, h1], hR a _ h2⟩
theorem rds_struct2 {t : TypeId} {f0 f1 : Field} (ht : P.underlying t = some (.struct #[f0, f1])) {α β : Type} {c0 : α → List Value} {c1 : β → List Value} {R0 : α → DataW H → Prop} {R1 : β → DataW H → Prop}
    (h0 : Rds enc P w base sp held f0.type c0 R0) (h1 : Rds enc P w base sp held f1.type c1 R1) (o0 : f0.offset = 0) (o1 : f1.offset = P.cellsOf f0.type) (hl : P.cellsOf t = P.cellsOf f0.type + P.cellsOf f1.type) :
    Rds enc P w base sp held t (fun (x : α × β) => c0 x.1 ++ c1 x.2) (fun x d => ∃ d0 d1, d = .agg [d0, d1] ∧ R0 x.1 d0 ∧ R1 x.2 d1) := fun n cs y h => by
  obtain ⟨xs, m, _, hx, hlen, hxl, hf⟩ := DataW.trod_struct ht h
  have e0 := hf 0 f0 rfl
  have e1 := hf 1 f1 rfl
  match xs, hxl with
  | [x0, x1], _ =>
    simp only [List.getElem?_cons_zero, List.getElem?_cons_succ] at e0 e1
    obtain ⟨a, ha, hra⟩ := h0 _ _ _ e0
    obtain ⟨b, hb, hrb⟩ := h1 _ _ _ e1
    refine ⟨(a, b), ?_, x0.1, x1.1, by rw [hx]; rfl, hra, hrb⟩
    rw [o0, List.drop_zero] at ha
    rw [o1] at hb
    rw [List.take_of_length_le (by rw [List.length_drop, hlen, hl]; omega)] at hb
    show cs = c0 a ++ c1 b
    rw [← ha, ← hb, List.take_append_drop]
theorem rds_struct3 {t : TypeId} {f0 f1 f2 : Field} (ht : P.underlying t = some (.struct #[f0, f1, f2])) {α β γ : Type} {c0 : α → List Value} {c1 : β → List Value} {c2 : γ → List Value} {R0 : α → DataW H → Prop} {R1 : β → DataW H → Prop} {R2 : γ → DataW H → Prop}
    (h0 : Rds enc P w base sp held f0.type c0 R0) (h1 : Rds enc P w base sp held f1.type c1 R1) (h2 : Rds enc P w base sp held f2.type c2 R2) (o0 : f0.offset = 0) (o1 : f1.offset = P.cellsOf f0.type) (o2 : f2.offset = P.cellsOf f0.type + P.cellsOf f1.type) (hl : P.cellsOf t = P.cellsOf f0.type + P.cellsOf f1.type + P.cellsOf f2.type) :
    Rds enc P w base sp held t (fun (x : α × β × γ) => c0 x.1 ++ c1 x.2.1 ++ c2 x.2.2) (fun x d => ∃ d0 d1 d2, d = .agg [d0, d1, d2] ∧ R0 x.1 d0 ∧ R1 x.2.1 d1 ∧ R2 x.2.2 d2) := fun n cs y h => by
  obtain ⟨xs, m, _, hx, hlen, hxl, hf⟩ := DataW.trod_struct ht h
  have e0 := hf 0 f0 rfl
  have e1 := hf 1 f1 rfl
  have e2 := hf 2 f2 rfl
  match xs, hxl with
  | [x0, x1, x2], _ =>
    simp only [List.getElem?_cons_zero, List.getElem?_cons_succ] at e0 e1 e2
    obtain ⟨a, ha, hra⟩ := h0 _ _ _ e0
    obtain ⟨b, hb, hrb⟩ := h1 _ _ _ e1
    obtain ⟨c, hc, hrc⟩ := h2 _ _ _ e2
    refine ⟨(a, b, c), ?_, x0.1, x1.1, x2.1, by rw [hx]; rfl, hra, hrb, hrc⟩
    rw [o0, List.drop_zero] at ha
    rw [o1] at hb
    rw [o2, List.take_of_length_le (by rw [List.length_drop, hlen, hl]; omega), ← List.drop_drop] at hc
    show cs = c0 a ++ c1 b ++ c2 c
    rw [← ha, ← hb, ← hc, List.append_assoc, List.take_append_drop, List.take_append_drop]

/-- A slice: where its elements lie. -/
theorem rds_slice {t : TypeId} {α : Type} (E : El P α) (ht : P.underlying t = some (.slice E.ty)) (hc : P.cellsOf E.ty = E.size) {R : α → DataW H → Prop} (he : Rds enc P w base sp held E.ty (fun a => (E.enc a).cells.toList) R) :
    Rds enc P w base sp held t (fun (x : SV × List α) => [svV x.1]) (fun x d => SlA E w x.1.1 x.2 ∧ x.1.2.1 = x.2.length ∧ x.1.2.1 ≤ x.1.2.2 ∧ x.1.2.2 ≤ maxLen ∧ ((x.1.1 = none ∧ x.2 = [] ∧ d = .nil) ∨ ∃ elems spare, d = .slice elems spare ∧ elems.length = x.2.length ∧ ∀ (i : Nat) (a : α) (y : DataW H), x.2[i]? = some a → elems[i]? = some y → R a y)) := fun n cs y h => by
  rcases Deep.open_slice ht h with ⟨h1, h2⟩ | ⟨ad, len, cap, m, n', D, Pl, h1, hb, hlc, hcm, hm, hy, hx⟩
  · refine ⟨((none, 0, 0), []), h1, SlA.nil E w none, rfl, Nat.zero_le _, Nat.zero_le _, .inl ⟨rfl, rfl, by rw [h2]⟩⟩
  · have hlm : len ≤ m := by rw [hm]; split <;> omega
    classical
    have hex : ∀ i, i < len → ∃ a, w.cells? base (ad.add (i * E.size)) E.size = some (E.enc a).cells.toList ∧ R a (D i) := fun i hi => by
      obtain ⟨cs', h3, h4⟩ := hx i (by omega)
      obtain ⟨a, ha, hr⟩ := he _ _ _ h4
      rw [hc, ha] at h3
      exact ⟨a, h3, hr⟩
    obtain ⟨xs, hxl, hxs⟩ : ∃ xs : List α, xs.length = len ∧ ∀ i a, xs[i]? = some a → w.cells? base (ad.add (i * E.size)) E.size = some (E.enc a).cells.toList ∧ R a (D i) := by
      clear h1 hy hlm hlc hm
      induction len with
      | zero => exact ⟨[], rfl, fun i a hi => by simp at hi⟩
      | succ k ih =>
        obtain ⟨xs, h3, h4⟩ := ih (fun i hi => hex i (by omega))
        obtain ⟨a, ha⟩ := hex k (by omega)
        refine ⟨xs ++ [a], by simp [h3], fun i b hi => ?_⟩
        by_cases hik : i < k
        · rw [List.getElem?_append_left (by omega)] at hi; exact h4 i b hi
        · rw [List.getElem?_append_right (by omega)] at hi
          have : i = k := by
            have := (List.getElem?_eq_some_iff.1 hi).1
            simp at this; omega
          subst this
          rw [h3, Nat.sub_self] at hi
          simp at hi; subst hi; exact ha
    have hlen : ∀ y : α, (E.enc y).cells.toList.length = E.size := fun y => by have := E.cells y; simpa using this
    have hcell : ∀ j u, (flat E xs)[j]? = some u → w.cell? (ad.add j) = some u := fun j u hj => by
      have hjl : j < xs.length * E.size := by have := (List.getElem?_eq_some_iff.1 hj).1; rwa [flat_len] at this
      have hpos := E.pos
      have hi : j / E.size < xs.length := Nat.div_lt_of_lt_mul (by rw [Nat.mul_comm]; exact hjl)
      have hr := Nat.mod_lt j hpos
      obtain ⟨h3, _⟩ := hxs (j / E.size) _ (List.getElem?_eq_getElem hi)
      obtain ⟨_, _, h4⟩ := World.cells?_some h3
      have h5 := h4 (j % E.size) hr
      rw [Deep.add_add, Nat.div_add_mod'] at h5
      have h6 := flat_get E (List.getElem?_eq_getElem hi) (j := j % E.size) (u := (E.enc xs[j / E.size]).cells.toList[j % E.size]'(by rw [hlen]; exact hr)) (by simp)
      rw [Nat.div_add_mod', hj] at h6
      rw [h5, List.getElem?_eq_getElem (by rw [hlen]; exact hr)]
      exact h6.symm
    refine ⟨((some ad, len, cap), xs), h1, ⟨fun hne => ⟨ad, rfl, ?_⟩, fun ad' had j u hj => by injection had with had; subst had; exact hcell j u hj⟩, hxl.symm, hlc, hcm, .inr ⟨_, _, by rw [hy], by simp [hxl], fun i a y hi hy' => ?_⟩⟩
    · have h0 : 0 < xs.length := List.length_pos_iff.2 hne
      have hj : 0 < (flat E xs).length := by rw [flat_len]; exact Nat.mul_pos h0 E.pos
      have := World.block_lt_of_cell? _ _ (hcell 0 _ (List.getElem?_eq_getElem hj))
      rwa [add_block] at this
    · obtain ⟨_, hr⟩ := hxs i a hi
      rw [List.getElem?_map] at hy'
      obtain ⟨k, hk, rfl⟩ := Option.map_eq_some_iff.1 hy'
      obtain ⟨h7, h8⟩ := List.getElem?_eq_some_iff.1 hk
      simp at h8
      subst h8; exact hr
theorem Rds.trod {t : TypeId} {α : Type} {cells : α → List Value} {R : α → DataW H → Prop} (h : Rds enc P w base sp held t cells R) {v : Value} {d : DataW H} {ps : List MemPlace} (hd : DataW.Trod enc P w base sp held t v d ps) : ∃ a, v.cells.toList = cells a ∧ R a d := by
  obtain ⟨n, hn⟩ := hd
  exact h n _ _ hn

theorem Keep.sameAt {w' : World} (hk : Keep noS w w') {p : MemPlace} (hp : p.block < w.heap.size) : w.sameAt w' p := by
  have hb := hk.block p.block hp (fun x => x)
  cases p with
  | cell b off => exact (World.cell?_of_block (a := ⟨b, off, none⟩) hb)
  | map b => exact hb
/-- What is read in memory that is kept is read again. -/
theorem trodAll_again {T : TypeId → Prop} (K : Kids P T) (hz : ∀ t e, T t → P.underlying t = some (.slice e) → 0 < P.cellsOf e) {w' : World} (hk : Keep noS w w') {sp' : Nat → Bool} {ts : List TypeId} {vs : List Value} {ds : List (DataW H)} {ps : List MemPlace} (hT : ∀ t ∈ ts, T t)
    (h : DataW.TrodAll enc P w 0 (fun _ => true) true ts vs ds ps) (hs : ∀ p ∈ ps, sp' p.block = true) : DataW.TrodAll enc P w' 0 sp' true ts vs ds ps := by
  have h1 := DataW.TrodAll.respare K hz hT h hs
  have hlt := h.lt
  clear h hs
  have gen : ∀ (ts : List TypeId) (vs : List Value) (ds : List (DataW H)) (ps : List MemPlace), DataW.TrodAll enc P w 0 sp' true ts vs ds ps → (∀ p ∈ ps, p.block < w.heap.size) → DataW.TrodAll enc P w' 0 sp' true ts vs ds ps := by
    intro ts
    induction ts with
    | nil =>
      intro vs ds ps h _
      match vs, ds, h with
      | [], [], h => exact h
    | cons t ts ih =>
      intro vs ds ps h hl
      match vs, ds, h with
      | v :: vs, d :: ds, ⟨p, q, ⟨n, hn⟩, h2, e⟩ =>
        exact ⟨p, q, ⟨n, DataW.trod_carry n t _ _ hn fun x hx => hk.sameAt (hl x (by rw [e]; exact List.mem_append_left _ hx))⟩, ih vs ds q h2 (fun x hx => hl x (by rw [e]; exact List.mem_append_right _ hx)), e⟩
  exact gen ts vs ds ps h1 hlt
theorem Keep.keptBut {w' : World} (hk : Keep noS w w') (may : MemPlace → Prop) : w.keptBut w' may := by
  refine ⟨hk.os, hk.output, fun i hi => ?_⟩
  rw [hk.block i hi (fun x => x)]
  cases w.heap[i]? with
  | none => rfl
  | some o => cases o <;> first | exact ⟨rfl, rfl, rfl, fun _ _ => rfl⟩ | exact .inr ⟨rfl, rfl⟩ | rfl
/-- What a law promises: true; old memory as it was, so the arguments read as they did. -/
theorem law_post {T : TypeId → Prop} (K : Kids P T) (hz : ∀ t e, T t → P.underlying t = some (.slice e) → 0 < P.cellsOf e) {f : Func} {s : ChangeSpec} {w' : World} {args : Array Value} {ds gs : List (DataW H)} {before : List MemPlace} {t : TypeId}
    (hT : ∀ t ∈ f.params.toList, T t) (hr : f.resultTypes = #[t]) (ht : P.underlying t = some .bool) (hv : s.vars = []) (hW : DataW.Whole enc P f.params.toList s.vars false w args.toList ds gs before)
    (h1 : (s.fn H (ds ++ gs)).results = [.lit (.bool true)]) (h2 : (s.fn H (ds ++ gs)).args = ds) (h3 : (s.fn H (ds ++ gs)).vars = []) (hk : Keep noS w w') : s.post enc P f false true false false w args (.bool true) w' := by
  have hW' := hW
  obtain ⟨p, q, hA, hV, he, _, _⟩ := hW
  rw [hv] at hV
  obtain ⟨hg, hq⟩ := trodVars_none hV
  rw [hq, List.append_nil] at he
  refine ⟨ds, gs, before, [], before, [], hW', ?_, ?_, ?_, hk.keptBut _, fun h => by cases h⟩
  · rw [h1, hr]
    exact trodAll_mk1 (shut_bool ht true)
  · rw [h2, he]
    exact trodAll_again K hz hk hT hA (fun x hx => by simpa using hA.lt x hx)
  · rw [h3, hv]
    rfl
end
end Go.Cw
/-
  MORE RULES: quotients and masks; bytes as a text; an append that keeps what its first argument shows; resources taken together.
-/
set_option linter.unusedVariables false
set_option linter.unusedSectionVars false
set_option linter.unusedSimpArgs false
namespace Go.Cw
section
variable {P : Program} {m : Bool} {S : Nat → Prop} {n : Nat} {ops : Array Oper} {Q : Exit → Act → World → Prop} {i d : Nat} {o : Oper} {l : List (Nat × Kd3)} {e : Env} {w w0 : World} {S0 : Nat → Prop} {H : List Res} {v : Value} {α : Type}
theorem BV.quo {t : TypeId} {k : IntKind} {a b c : Int} (hb : b ≠ 0) (hc : k.wrap (a.tdiv b) = c) : BV P .quo t (.int k a) (.int k b) (.int k c) := fun w ox oy => by subst hc; simp [eqGuard_int, binOp, Op.intDiv, hb]
theorem BV.rem {t : TypeId} {k : IntKind} {a b c : Int} (hb : b ≠ 0) (hc : a.tmod b = c) : BV P .rem t (.int k a) (.int k b) (.int k c) := fun w ox oy => by subst hc; simp [eqGuard_int, binOp, Op.intDiv, hb]
theorem BV.quoN {t : TypeId} {a b : Nat} (hb : b ≠ 0) (ha : a ≤ 9223372036854775807) : BV P .quo t (.int .i64 (a : Int)) (.int .i64 (b : Int)) (.int .i64 ((a / b : Nat) : Int)) :=
  BV.quo (by omega) (by
    have h := Nat.div_le_self a b
    obtain ⟨q, hq⟩ : ∃ q, q = a / b := ⟨_, rfl⟩
    rw [Int.tdiv_eq_ediv_of_nonneg (by omega), ← Int.natCast_ediv]
    rw [← hq] at h ⊢
    exact wrap_i64 (by omega) (by omega))
theorem BV.remN {t : TypeId} {a b : Nat} (hb : b ≠ 0) : BV P .rem t (.int .i64 (a : Int)) (.int .i64 (b : Int)) (.int .i64 ((a % b : Nat) : Int)) :=
  BV.rem (by omega) (by rw [Int.tmod_eq_emod_of_nonneg (by omega), ← Int.natCast_emod])
/-- What a mask of low ones leaves is below it. -/
theorem BV.mask {t : TypeId} (a : Int) (k : Nat) (hk : k ≤ 62) : ∃ r : Nat, r < 2 ^ k ∧ BV P .and t (.int .i64 a) (.int .i64 ((2 ^ k - 1 : Nat) : Int)) (.int .i64 (r : Int)) := by
  have hp : 2 ^ k ≤ 2 ^ 62 := Nat.pow_le_pow_right (by decide) hk
  have hp1 : 1 ≤ 2 ^ k := Nat.one_le_two_pow
  obtain ⟨r, hr, he⟩ : ∃ r : Nat, r < 2 ^ k ∧ (BitVec.ofInt 64 a &&& BitVec.ofInt 64 ((2 ^ k - 1 : Nat) : Int)).toNat = r := by
    refine ⟨_, ?_, rfl⟩
    rw [BitVec.toNat_and]
    have h1 : (BitVec.ofInt 64 ((2 ^ k - 1 : Nat) : Int)).toNat = 2 ^ k - 1 := by
      rw [BitVec.toNat_ofInt]
      have : (((2 ^ k - 1 : Nat) : Int) % ((2 ^ 64 : Nat) : Int)) = ((2 ^ k - 1 : Nat) : Int) := Int.emod_eq_of_lt (by omega) (by
        have : (2 ^ 62 : Nat) < 2 ^ 64 := by decide
        omega)
      rw [this]; rfl
    rw [h1, Nat.and_two_pow_sub_one_eq_mod]
    exact Nat.mod_lt _ (by omega)
  refine ⟨r, hr, fun w ox oy => ?_⟩
  have hw : IntKind.i64.wrap ((r : Nat) : Int) = r := wrap_i64 (by omega) (by
    have : (2 ^ 62 : Nat) ≤ 9223372036854775807 := by decide
    omega)
  have e2 : (BitVec.ofInt IntKind.i64.bits a &&& BitVec.ofInt IntKind.i64.bits ((2 ^ k - 1 : Nat) : Int)).toNat = r := he
  simp only [Sem.run_bind, eqGuard_int, Result.andThen_ok, binOp_and, Op.intBits, e2, hw, Sem.run_pure]
/-- Sums of small bytes. -/
theorem BV.addU {t : TypeId} {a b : Nat} (h : a + b ≤ 255) : BV P .add t (.int .u8 (a : Int)) (.int .u8 (b : Int)) (.int .u8 ((a + b : Nat) : Int)) :=
  BV.add (by simp [IntKind.wrap, IntKind.bits, IntKind.signed]; omega)
/-- A byte that is told by a remainder. -/
theorem wrap_u8 (i : Nat) : IntKind.u8.wrap (i : Int) = (((UInt8.ofNat i).toNat : Nat) : Int) := by
  simp [IntKind.wrap, IntKind.bits, IntKind.signed, UInt8.toNat_ofNat']
theorem BV.addB {t : TypeId} {a : Nat} : BV P .add t (.int .u8 97) (.int .u8 (a : Int)) (.int .u8 (((UInt8.ofNat (97 + a)).toNat : Nat) : Int)) :=
  BV.add (by rw [← wrap_u8]; rfl)
theorem wrap8 {n : Nat} (h : n ≤ 255) : IntKind.u8.wrap (n : Int) = (n : Int) := by
  simp [IntKind.wrap, IntKind.bits, IntKind.signed]; omega
theorem BV.succ {t : TypeId} {k : Nat} (h : k + 1 ≤ 9223372036854775807) : BV P .add t (.int .i64 (k : Int)) (.int .i64 1) (.int .i64 ((k + 1 : Nat) : Int)) :=
  BV.add (by rw [Int.natCast_add]; exact wrap_i64 (by omega) (by omega))

/-- Bytes in memory, as a text. -/
theorem EW.convBS {x : Operand} {t t' : TypeId} (E : El P UInt8) (hE : ∀ b, E.enc b = .int .u8 ((b.toNat : Nat) : Int)) (h1 : E.size = 1) (he : P.underlying E.ty = some (.int .u8)) [ht : SlT P t E.ty] [ht' : StrT P t'] {b c : Nat} {bs : List UInt8} (hs : St w0 S0 w H) (k : Nat)
    (hk : H[k]? = some (own E (.slice (some ⟨b, 0, none⟩) bs.length c) bs)) (hS : m = true ∨ ¬ S b)
    (h : EW P m S n ops Q l ((d, .string ⟨bs.toArray⟩) :: e) w) (ho : ops[i]? = some o := by exact rfl) (hop : o.op = .convert t t' x := by exact rfl) (hg : wantedE ops e o = some true := by exact rfl) (hd : o.dst = some d := by exact rfl) (hdn : Nat.blt d n = true := by exact rfl) (hx : ev e x = some (.slice (some ⟨b, 0, none⟩) bs.length c) := by exact rfl) : EW P m S n ops Q ((i, .q) :: l) e w :=
  EW.q ho hg hd hdn (fun ac ha w' hc => by
    have hsl : SlA E w' (some ⟨b, 0, none⟩) bs := by
      unfold Cl at hc
      split at hc
      · subst hc; exact hs.sl k hk
      · rename_i hmm; exact (hs.sl k hk).keep hc (fun ad had => by injection had with had; subst had; exact hS.resolve_left hmm)
    have hfl : flat E bs = (bs.map fun b => ((b.toNat : Nat) : Int)).map (Value.int .u8) := by
      clear hsl hk hx h
      induction bs with
      | nil => rfl
      | cons y r ih =>
        show (E.enc y).cells.toList ++ flat E r = _
        rw [ih, hE]; rfl
    have hl := run_loadCells_list (P := P) (w := w') ⟨b, 0, none⟩ (flat E bs) (fun j u hj => hsl.cell _ rfl j u hj)
    have hlen : (flat E bs).length = bs.length := by rw [flat_len, h1, Nat.mul_one]
    rw [hlen, hfl] at hl
    have hb := run_bytesToString (P := P) w' ⟨b, 0, none⟩ bs.length c (bs.map fun b => ((b.toNat : Nat) : Int)) hl
    have hf : (bs.map fun b => ((b.toNat : Nat) : Int)).foldl (fun r n => r.push (UInt8.ofNat n.toNat)) ByteArray.empty = ⟨bs.toArray⟩ := by
      have gen : ∀ (bs : List UInt8) (s : ByteArray), (bs.map fun b => ((b.toNat : Nat) : Int)).foldl (fun r n => r.push (UInt8.ofNat n.toNat)) s = ⟨s.data ++ bs.toArray⟩ := by
        intro bs
        induction bs with
        | nil => intro s; simp
        | cons y r ih =>
          intro s
          rw [List.map_cons, List.foldl_cons, ih]
          have : UInt8.ofNat (((y.toNat : Nat) : Int)).toNat = y := by simp
          rw [this]
          simp [ByteArray.push]
      rw [gen]; simp
    rw [hf] at hb
    have hcv := run_convert_bytes_string (P := P) w' t t' E.ty (some ⟨b, 0, none⟩) bs.length c ht.u he ht'.u
    rw [hb] at hcv
    simp only [Qt, execOp, hop, ha.eval hx]
    rw [Sem.run_bind, hcv]; rfl) h

theorem SlA.el {E : El P α} {ad : Addr} {xs : List α} (h : SlA E w (some ad) xs) {k : Nat} {x : α} (hx : xs[k]? = some x) : LDP P w E.ty (ad.add (k * E.size)) (E.enc x) := by
  obtain ⟨ad', he, _, hld⟩ := h.at_ (List.getElem?_eq_some_iff.1 hx).1
  injection he with he; subst he
  exact hld k x hx
/-! ### Resources taken together -/
def andR (A B : Res) : Res := {
  fp := fun b => A.fp b ∨ B.fp b
  holds := fun w => A.holds w ∧ B.holds w
  loc := fun w w' h hb => ⟨A.loc w w' h.1 fun b hf => hb b (.inl hf), B.loc w w' h.2 fun b hf => hb b (.inr hf)⟩
  old := fun w h b hb => hb.elim (A.old w h.1 b) (B.old w h.2 b) }
def bigR {ι : Type} (f : ι → Res) (l : List ι) : Res := {
  fp := fun b => ∃ x ∈ l, (f x).fp b
  holds := fun w => ∀ x ∈ l, (f x).holds w
  loc := fun w w' h hb => fun x hx => (f x).loc w w' (h x hx) fun b hf => hb b ⟨x, hx, hf⟩
  old := fun w h b ⟨x, hx, hf⟩ => (f x).old w (h x hx) b hf }
theorem St.both {A B : Res} (h : St w0 S0 w (A :: B :: H)) : St w0 S0 w (andR A B :: H) := by
  obtain ⟨h1, h2⟩ := List.pairwise_cons.1 h.disj
  obtain ⟨h3, h4⟩ := List.pairwise_cons.1 h2
  refine ⟨h.keep, fun R hR => ?_, fun R hR b hb => ?_, List.pairwise_cons.2 ⟨fun R hR b hb => hb.elim (h1 R (by simp [hR]) b) (h3 R hR b), h4⟩⟩
  · rcases List.mem_cons.1 hR with rfl | hm
    · exact ⟨h.holds A (by simp), h.holds B (by simp)⟩
    · exact h.holds R (by simp [hm])
  · rcases List.mem_cons.1 hR with rfl | hm
    · exact hb.elim (h.own A (by simp) b) (h.own B (by simp) b)
    · exact h.own R (by simp [hm]) b hb
theorem St.bigNil {ι : Type} (f : ι → Res) (h : St w0 S0 w H) : St w0 S0 w (bigR f [] :: H) :=
  h.add (Keep.refl _ _) (by intro x hx; simp at hx) (fun b ⟨x, hx, _⟩ => by simp at hx)
theorem St.bigSnoc {ι : Type} {f : ι → Res} {l : List ι} {x : ι} (h : St w0 S0 w (bigR f l :: f x :: H)) : St w0 S0 w (bigR f (l ++ [x]) :: H) := by
  have h2 := h.both
  refine h2.conv 0 (R := andR (bigR f l) (f x)) (R' := bigR f (l ++ [x])) rfl (fun y hy => ?_) (fun b ⟨y, hy, hb⟩ => ?_)
  · have hh : (andR (bigR f l) (f x)).holds w := h2.holds _ (by simp)
    rcases List.mem_append.1 hy with hy | hy
    · exact hh.1 y hy
    · rw [List.mem_singleton.1 hy]; exact hh.2
  · rcases List.mem_append.1 hy with hy | hy
    · exact .inl ⟨y, hy, hb⟩
    · rw [List.mem_singleton.1 hy] at hb; exact .inr hb

theorem St.rowsApp {E : El P α} {ps qs : List (SV × List α)} (h : St w0 S0 w (rows E ps :: rows E qs :: H)) : St w0 S0 w (rows E (ps ++ qs) :: H) := by
  have h2 := h.both
  obtain ⟨h3, _⟩ := List.pairwise_cons.1 h.disj
  have hd := h3 (rows E qs) (by simp)
  refine h2.conv 0 (R := andR (rows E ps) (rows E qs)) (R' := rows E (ps ++ qs)) rfl ⟨fun p hp => ?_, List.pairwise_append.2 ⟨?_, ?_, fun p hp q hq b hb hb' => hd b ⟨p, hp, hb⟩ ⟨q, hq, hb'⟩⟩⟩ (fun b ⟨p, hp, hb⟩ => ?_)
  · have hh : (andR (rows E ps) (rows E qs)).holds w := h2.holds _ (by simp)
    rcases List.mem_append.1 hp with hp | hp
    · exact hh.1.1 p hp
    · exact hh.2.1 p hp
  · exact (h.res 0 rfl : (rows E ps).holds w).2
  · exact (h.res 1 rfl : (rows E qs).holds w).2
  · rcases List.mem_append.1 hp with hp | hp
    · exact .inl ⟨p, hp, hb⟩
    · exact .inr ⟨p, hp, hb⟩

/-- A row that is shown by two slices: the one that was there, and the one that is longer. -/
def pairR (E : El P α) (s v : Value) (xs zs : List α) : Res := {
  fp := fun b => s.ownBlock = some b ∨ v.ownBlock = some b
  holds := fun w => (∀ b, s.ownBlock = some b ∨ v.ownBlock = some b → b < w.heap.size) ∧ (∃ A c, s = .slice A xs.length c ∧ SlA E w A xs) ∧ (∃ A c, v = .slice A zs.length c ∧ SlA E w A zs)
  loc := fun w w' h hb => by
    have hsz : ∀ b, s.ownBlock = some b ∨ v.ownBlock = some b → b < w'.heap.size := fun b hf => by
      have h1 := h.1 b hf
      have h2 := hb b hf
      rw [Array.getElem?_eq_getElem h1] at h2
      exact (Array.getElem?_eq_some_iff.1 h2).1
    have gen : ∀ (A : Option Addr) (ys : List α) (u : Value), (∀ ad, A = some ad → u.ownBlock = some ad.block) → (∀ b, u.ownBlock = some b → w'.heap[b]? = w.heap[b]?) → (∀ b, u.ownBlock = some b → b < w'.heap.size) → SlA E w A ys → SlA E w' A ys := fun A ys u h1 h2 h3 hsl =>
      ⟨fun hne => let ⟨ad, had, _⟩ := hsl.some_ hne; ⟨ad, had, h3 _ (h1 ad had)⟩, fun ad had j x hx => by
        rw [← hsl.cell ad had j x hx]
        exact World.cell?_of_block (by rw [add_block]; exact h2 _ (h1 ad had))⟩
    obtain ⟨_, ⟨A, c, h2, h3⟩, ⟨B, c', h4, h5⟩⟩ := h
    exact ⟨hsz, ⟨A, c, h2, gen A xs s (fun ad had => by rw [h2, had]; rfl) (fun b hf => hb b (.inl hf)) (fun b hf => hsz b (.inl hf)) h3⟩, ⟨B, c', h4, gen B zs v (fun ad had => by rw [h4, had]; rfl) (fun b hf => hb b (.inr hf)) (fun b hf => hsz b (.inr hf)) h5⟩⟩
  old := fun w h b hb => h.1 b hb }
theorem pair_sl {E : El P α} {s t : SV} {xs zs : List α} (h : (pairR E (svV s) (svV t) xs zs).holds w) : s.2.1 = xs.length ∧ SlA E w s.1 xs ∧ t.2.1 = zs.length ∧ SlA E w t.1 zs := by
  obtain ⟨_, ⟨A, c, h2, h3⟩, ⟨B, c', h4, h5⟩⟩ := h
  simp only [svV, Value.slice.injEq] at h2 h4
  obtain ⟨e1, e2, _⟩ := h2
  obtain ⟨e3, e4, _⟩ := h4
  rw [e1, e3]
  exact ⟨e2, h3, e4, h5⟩
theorem own_lt {E : El P α} {v : Value} {xs : List α} (h : (own E v xs).holds w) : ∀ b, v.ownBlock = some b → b < w.heap.size := fun b hb => (own E v xs).old w h b hb
/-- append(s, y), the old slice still shown. -/
theorem EW.appendTwo (E : El P α) (k kb : Nat) {xs : List α} {y : α} {b : Nat} (hs : St w0 S0 w H) (hk : H[k]? = some (own E v xs)) (hkb : H[kb]? = some (pt b (.cells (E.enc y).cells E.ty))) {s x : Operand} {t : TypeId} [ht : SlT P t E.ty]
    (hlen : (xs.length + 1) * E.bytes ≤ 140737488355328) (hS : m = true ∨ ∀ b, v.ownBlock = some b → S b)
    (ho : ops[i]? = some o) (hop : o.op = .call { callee := .builtin .append, args := #[s, x], argTypes := #[t, t] }) (hg : wantedE ops e o = some true) (hd : o.dst = some d) (hdn : Nat.blt d n = true) (hsv : ev e s = some v) (hx : ev e x = some (.slice (some ⟨b, 0, none⟩) 1 1))
    (h : ∀ v' w', St w0 S0 w' (H.set k (pairR E v v' xs (xs ++ [y]))) → EW P m S n ops Q l ((d, v') :: e) w') : EW P m S n ops Q ((i, .l) :: l) e w := by
  obtain ⟨inf, hi, hzz⟩ := Option.map_eq_some_iff.1 E.info
  simp only [Prod.mk.injEq] at hzz
  obtain ⟨hz, hsz, hb⟩ := hzz
  have hy := SlA.lit (E := E) hs kb hkb
  have hle : xs.length + 1 ≤ 140737488355328 := Nat.le_trans (Nat.le_mul_of_pos_right _ E.posb) hlen
  have hown := hs.res k hk
  obtain ⟨A, c, hv, hsl, hxc, hcm, hA, hnil⟩ := own_sl hown
  have hrun : ∃ v' w', (Builtin.append_ #[t, t] o.type #[v, .slice (some ⟨b, 0, none⟩) 1 1]).run P w = .ok v' w' ∧ Keep (own E v xs).fp w w' ∧ (pairR E v v' xs (xs ++ [y])).holds w' ∧ (v'.ownBlock = v.ownBlock ∨ v'.ownBlock = some w.heap.size) := by
    have hnews : ∀ j u, (flat E [y])[j]? = some u → w.cell? ((⟨b, 0, none⟩ : Addr).add j) = some u := fun j u hu => hy.cell _ rfl j u hu
    obtain ⟨v', w', hr, hown', hgr, _, hloc⟩ := run_append_own_at (P := P) w 0 t o.type E.ty inf E.zero E.size E.bytes ht.u hi hz hsz hb E.zsize E.pos v xs.length (flat E xs) hown ⟨b, 0, none⟩ 1 1 (flat E [y]) (flat_len E [y])
      hnews (flat_one E [y]) (by unfold maxLen; omega) hlen (Nat.zero_le _)
    have hkeep : Keep (own E v xs).fp w w' := ⟨hgr.os, hgr.tape, hgr.output, run_drawn _ _ _ _ _ hr, hgr.size, fun b hb hn => hgr.block b hb (fun e => hn e.symm)⟩
    have hown2 : (own E v' (xs ++ [y])).holds w' := by
      show w'.ownsRow 0 E.ty E.size v' (xs ++ [y]).length (flat E (xs ++ [y]))
      rw [flat_append, List.length_append]; exact hown'
    obtain ⟨A', c', hv', hsl', _⟩ := own_sl hown2
    refine ⟨v', w', hr, hkeep, ⟨fun b' hb' => ?_, ⟨A, c, hv, ?_⟩, ⟨A', c', hv', hsl'⟩⟩, hloc⟩
    · rcases hb' with hb' | hb'
      · exact Nat.lt_of_lt_of_le (own_lt hown b' hb') hkeep.size
      · exact own_lt hown2 b' hb'
    · cases hAe : A with
      | none => rw [hAe] at hsl; rw [(hnil hAe).2]; exact SlA.nil E _ _
      | some ad =>
        obtain ⟨ad1, ad2, ad3⟩ := hA ad hAe
        obtain ⟨g, off, sp⟩ := ad
        dsimp only at ad2 ad3
        subst ad2 ad3 hAe
        subst hv
        by_cases hroom : xs.length + 1 ≤ c
        · obtain ⟨w2, hr2, _, _⟩ := run_append_fits (P := P) w 0 t o.type E.ty inf E.size ht.u hi hsz g xs.length c (flat E xs) hown ⟨b, 0, none⟩ 1 1 (flat E [y]) (flat_len E [y]) hnews (flat_one E [y]) hroom
          rw [hr2] at hr
          injection hr with e1 e2
          subst e1
          have e3 : A' = some ⟨g, 0, none⟩ := by injection hv' with h1; exact h1.symm
          rw [e3] at hsl'
          have := hsl'.take xs.length
          rwa [List.take_left' rfl] at this
        · have holds : ∀ j u, (flat E xs)[j]? = some u → w.cell? ((⟨g, 0, none⟩ : Addr).add j) = some u := fun j u hu => hsl.cell _ rfl j u hu
          have hr2 := run_append_grow (P := P) w t o.type E.ty inf E.zero ht.u hi hz ⟨g, 0, none⟩ xs.length c (flat E xs) (by rw [hsz]; exact flat_len E xs) holds ⟨b, 0, none⟩ 1 1 (flat E [y]) (by rw [hsz]; exact flat_len E [y]) hnews (by omega) (by omega) (by rw [hb]; exact growslice_fits (by omega) hlen)
          rw [hr2] at hr
          injection hr with e1 e2
          subst e2
          exact hsl.stay ((Keep.drew w).trans (Keep.alloc _ _))
  obtain ⟨v', w', hr, hkeep, hpair, hloc⟩ := hrun
  refine EW.lv ho hg hd hdn (fun a ha => ?_) (dl_of' (hS.imp id fun hS => hkeep.mono fun b _ hb => hS b hb)) (h v' w' (hs.turn k hk hkeep hpair (fun b' hb' => by
      rcases hb' with hb' | hb'
      · exact .inl hb'
      · rcases hloc with hl | hl
        · exact .inl (hl.symm.trans hb')
        · refine .inr ?_
          rw [hl] at hb'; injection hb' with hb'; omega)))
  simp only [execOp, hop, resolve, invoke, builtin, Sem.run_bind, Sem.run_pure, Result.andThen_ok, List.map_toArray, List.map_cons, List.map_nil, ha.eval hsv, ha.eval hx, hr]
end
end Go.Cw
