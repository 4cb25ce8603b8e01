import PyProof.Rows.All
import Wide.All
import OpenK.AllK
import Wide.FinOn
import HandS.ForMost
import HandS.ForExc
import HandS.Deep
import HandS.IsInst
import HandS.TupAny
import HandS.TupMul
import HandS.Style
import KE.SortData
import HandS.SortInts
import HandS.Zip
import PySem.Challenge.RW_stewardsight_k17_guards_told
set_option Elab.async false
set_option linter.all false
set_option autoImplicit false
set_option maxRecDepth 100000
/-! Ev0: data values D, how the abstract heap bears them, what an evaluation leaves (Grow, Mdl), the readings RdV, RdP, RdT. -/
namespace Ev
open PySem PySem.Spec PyProof.Rows L2

abbrev St := L2.St

inductive D where
  | none | bool (b : Bool) | int (i : Int) | str (s : Str)
  | tup (xs : List D) | lst (xs : List D) | pool | scr (ns : List Int)
  deriving Inhabited

/-! ### the evaluation monad: the number of draws is its state -/
def M (α : Type) := Nat → Option (α × Nat)
def M.ret {α : Type} (a : α) : M α := fun n => some (a, n)
def M.bind {α β : Type} (x : M α) (f : α → M β) : M β := fun n => match x n with
  | .none => .none
  | .some (a, n') => f a n'
def M.fail {α : Type} : M α := fun _ => .none
def M.opt {α : Type} (o : Option α) : M α := fun n => match o with
  | .none => .none
  | .some a => some (a, n)
instance : Monad M where
  pure := M.ret
  bind := M.bind
@[simp] theorem M.pure_ap {α : Type} (a : α) (n : Nat) : (pure a : M α) n = some (a, n) := rfl
@[simp] theorem M.ret_ap {α : Type} (a : α) (n : Nat) : (M.ret a : M α) n = some (a, n) := rfl
@[simp] theorem M.fail_ap {α : Type} (n : Nat) : (M.fail : M α) n = .none := rfl
theorem M.bind_ap {α β : Type} (x : M α) (f : α → M β) (n : Nat) : (x >>= f) n = match x n with
  | .none => .none
  | .some (a, n') => f a n' := rfl
theorem M.bind_some {α β : Type} {x : M α} {f : α → M β} {n : Nat} {r : β × Nat} (h : (x >>= f) n = some r) : ∃ a n', x n = some (a, n') ∧ f a n' = some r := by
  rw [M.bind_ap] at h
  split at h
  · cases h
  · exact ⟨_, _, by assumption, h⟩
@[simp] theorem M.opt_some {α : Type} (a : α) : (M.opt (some a) : M α) = pure a := rfl
theorem M.opt_ok {α : Type} {o : Option α} {n : Nat} {r : α × Nat} (h : (M.opt o : M α) n = some r) : o = some r.1 ∧ r.2 = n := by
  unfold M.opt at h
  cases o with
  | none => cases h
  | some a => cases h; exact ⟨rfl, rfl⟩

/-! ### where the pool stands -/
structure Gh where
  live : Bool
  K : PySem.W.Frag
  pp : Addr
  pr : Addr
  pc : Addr
  rows : List Int

mutual
inductive Rep (g : Gh) (F : Hp) : V → D → Prop
  | non : Rep g F .non .none
  | bl (b : Bool) : Rep g F (.bl b) (.bool b)
  | int (i : Int) : Rep g F (.int i) (.int i)
  | str (x : Str) : Rep g F (.str x) (.str x)
  | tup {a : Addr} {vs : List V} {ds : List D} : SqT g.K F a vs → RepAll g F vs ds → Rep g F (.ref a) (.tup ds)
  | lst {a : Addr} {vs : List V} {ds : List D} : F a = some (.lst vs) → RepAll g F vs ds → Rep g F (.ref a) (.lst ds)
  | pool : Rep g F (.ref g.pp) .pool
  | scr {a : Addr} {ns : List Int} : SqL g.K F a (ns.map V.int) → Rep g F (.ref a) (.scr ns)
inductive RepAll (g : Gh) (F : Hp) : List V → List D → Prop
  | nil : RepAll g F [] []
  | cons {v : V} {vs : List V} {d : D} {ds : List D} : Rep g F v d → RepAll g F vs ds → RepAll g F (v :: vs) (d :: ds)
end

theorem seqT_mono {K : PySem.W.Frag} {H H' : Hp} {a : Addr} {xs : List V} (e : Same H H') (h : SqT K H a xs) : SqT K H' a xs := by
  rcases h with (h | ⟨o, h⟩) | h
  · exact .inl (.inl (e _ _ h))
  · exact .inl (.inr ⟨o, e _ _ h⟩)
  · exact .inr h

section
variable {g : Gh} {F F' : Hp}
mutual
theorem Rep.mono (e : Same F F') : ∀ {v : V} {d : D}, Rep g F v d → Rep g F' v d
  | _, _, .non => .non
  | _, _, .bl b => .bl b
  | _, _, .int i => .int i
  | _, _, .str x => .str x
  | _, _, .tup h r => .tup (seqT_mono e h) (RepAll.mono e r)
  | _, _, .lst h r => .lst (e _ _ h) (RepAll.mono e r)
  | _, _, .pool => .pool
  | _, _, .scr h => .scr (e.seq h)
theorem RepAll.mono (e : Same F F') : ∀ {vs : List V} {ds : List D}, RepAll g F vs ds → RepAll g F' vs ds
  | _, _, .nil => .nil
  | _, _, .cons h r => .cons (Rep.mono e h) (RepAll.mono e r)
end
theorem RepAll.length : ∀ {vs : List V} {ds : List D}, RepAll g F vs ds → vs.length = ds.length
  | _, _, .nil => rfl
  | _, _, .cons _ r => by simp [RepAll.length r]
theorem RepAll.get : ∀ {vs : List V} {ds : List D} {i : Nat} {d : D}, RepAll g F vs ds → ds[i]? = some d → ∃ v, vs[i]? = some v ∧ Rep g F v d
  | _, _, i, _, .nil, h => by simp at h
  | _, _, 0, _, .cons h _, e => by simp at e; subst e; exact ⟨_, rfl, h⟩
  | _, _, i + 1, d, .cons _ r, e => by
    obtain ⟨v, h1, h2⟩ := RepAll.get (i := i) (d := d) r (by simpa using e)
    exact ⟨v, by simpa using h1, h2⟩
theorem RepAll.getV : ∀ {vs : List V} {ds : List D} {i : Nat} {v : V}, RepAll g F vs ds → vs[i]? = some v → ∃ d, ds[i]? = some d ∧ Rep g F v d
  | _, _, i, _, .nil, h => by simp at h
  | _, _, 0, _, .cons h _, e => by simp at e; subst e; exact ⟨_, rfl, h⟩
  | _, _, i + 1, d, .cons _ r, e => by
    obtain ⟨v, h1, h2⟩ := RepAll.getV (i := i) (v := d) r (by simpa using e)
    exact ⟨v, by simpa using h1, h2⟩
theorem RepAll.append : ∀ {vs ws : List V} {ds es : List D}, RepAll g F vs ds → RepAll g F ws es → RepAll g F (vs ++ ws) (ds ++ es)
  | _, _, _, _, .nil, s => s
  | _, _, _, _, .cons r t, s => .cons r (RepAll.append t s)
theorem RepAll.take : ∀ {vs : List V} {ds : List D} (n : Nat), RepAll g F vs ds → RepAll g F (vs.take n) (ds.take n)
  | _, _, 0, _ => .nil
  | _, _, _ + 1, .nil => .nil
  | _, _, n + 1, .cons r t => .cons r (RepAll.take n t)
theorem RepAll.drop : ∀ {vs : List V} {ds : List D} (n : Nat), RepAll g F vs ds → RepAll g F (vs.drop n) (ds.drop n)
  | _, _, 0, r => r
  | _, _, _ + 1, .nil => .nil
  | _, _, n + 1, .cons _ t => RepAll.drop n t
theorem RepAll.set {v : V} {d : D} (r : Rep g F v d) : ∀ {vs : List V} {ds : List D} (i : Nat), RepAll g F vs ds → RepAll g F (vs.set i v) (ds.set i d)
  | _, _, _, .nil => .nil
  | _, _, 0, .cons _ t => .cons r t
  | _, _, i + 1, .cons q t => .cons q (RepAll.set r i t)
theorem RepAll.reverse {vs : List V} {ds : List D} (h : RepAll g F vs ds) : RepAll g F vs.reverse ds.reverse := by
  induction vs generalizing ds with
  | nil => cases h; exact .nil
  | cons v vs ih =>
    cases h with
    | cons r t =>
      rw [List.reverse_cons, List.reverse_cons]
      exact (ih t).append (.cons r .nil)
theorem RepAll.snoc {vs : List V} {ds : List D} {v : V} {d : D} (h : RepAll g F vs ds) (r : Rep g F v d) : RepAll g F (vs ++ [v]) (ds ++ [d]) := h.append (.cons r .nil)
end

/-! ### heaps -/
/-- the heap but the draws' counter -/
def vis (g : Gh) (H : Hp) : Hp := fun a => if g.live = true ∧ a = g.pc then Option.none else H a
theorem vis_ne {g : Gh} {H : Hp} {a : Addr} (h : g.live = true → a ≠ g.pc) : vis g H a = H a := by unfold vis; rw [if_neg fun z => h z.1 z.2]
theorem vis_some {g : Gh} {H : Hp} {a : Addr} {o : HO} (h : vis g H a = some o) : (g.live = true → a ≠ g.pc) ∧ H a = some o := by
  unfold vis at h
  by_cases e : g.live = true ∧ a = g.pc
  · rw [if_pos e] at h; cases h
  · rw [if_neg e] at h; exact ⟨fun x y => e ⟨x, y⟩, h⟩
theorem vis_same {g : Gh} {H : Hp} : Same (vis g H) H := fun _ _ h => (vis_some h).2

structure PoolL (g : Gh) (n : Nat) (H : Hp) : Prop where
  p : H g.pp = some (.lst [.ref g.pr, .ref g.pc])
  r : H g.pr = some (.lst (g.rows.map V.int))
  c : H g.pc = some (.lst [.int n])
  np : g.pc ≠ g.pp
  nr : g.pc ≠ g.pr
def PoolAt (g : Gh) (n : Nat) (H : Hp) : Prop := g.live = true → PoolL g n H

/-- from F, H on: what was frozen is so, what was tracked stands (but the counter), nothing that stood was frozen -/
structure Grow (g : Gh) (F H F' H' : Hp) : Prop where
  f : Same F F'
  h : Same (vis g H) (vis g H')
  c : g.live = true → (H g.pc).isSome = true → (H' g.pc).isSome = true
  nw : ∀ a, (H a).isSome = true → F' a = F a
theorem Grow.refl {g : Gh} {F H : Hp} : Grow g F H F H := ⟨Same.refl _, Same.refl _, fun _ => id, fun _ _ => rfl⟩
theorem Grow.there {g : Gh} {F H F' H' : Hp} (x : Grow g F H F' H') {a : Addr} (h : (H a).isSome = true) : (H' a).isSome = true := by
  by_cases e : g.live = true ∧ a = g.pc
  · obtain ⟨hl, rfl⟩ := e; exact x.c hl h
  · have e' : g.live = true → a ≠ g.pc := fun x y => e ⟨x, y⟩
    obtain ⟨o, ho⟩ := Option.isSome_iff_exists.mp h
    have := x.h a o (by rw [vis_ne e']; exact ho)
    rw [vis_ne e'] at this
    rw [this]; rfl
theorem Grow.trans {g : Gh} {F H F1 H1 F2 H2 : Hp} (x : Grow g F H F1 H1) (y : Grow g F1 H1 F2 H2) : Grow g F H F2 H2 :=
  ⟨x.f.trans y.f, x.h.trans y.h, fun hl h => y.c hl (x.c hl h), fun a h => (y.nw a (x.there h)).trans (x.nw a h)⟩
theorem Grow.fresh {g : Gh} {F H F' H' : Hp} (x : Grow g F H F' H') {a : Addr} (h : H' a = Option.none) : H a = Option.none := by
  cases q : H a with
  | none => rfl
  | some o =>
    have := x.there (a := a) (by rw [q]; rfl)
    rw [h] at this; cases this

section
variable {g : Gh} {F H F' H' : Hp} {n : Nat} {p : Addr} {o : HO}
theorem sub_none (s : Same F (vis g H)) (h : H p = Option.none) : F p = Option.none := by
  cases q : F p with
  | none => rfl
  | some o =>
    have := (vis_some (s p o q)).2
    rw [h] at this; cases this
theorem PoolAt.fresh (P : PoolAt g n H) (h : H p = Option.none) : g.live = true → p ≠ g.pp ∧ p ≠ g.pr ∧ p ≠ g.pc := by
  intro hl
  have P := P hl
  refine ⟨?_, ?_, ?_⟩ <;> intro e <;> subst e
  · rw [P.p] at h; cases h
  · rw [P.r] at h; cases h
  · rw [P.c] at h; cases h
theorem PoolAt.upd (P : PoolAt g n H) (h : H p = Option.none) : PoolAt g n (upd H p o) := by
  intro hl
  obtain ⟨h1, h2, h3⟩ := P.fresh h hl
  have P := P hl
  exact ⟨by rw [upd_ne h1.symm]; exact P.p, by rw [upd_ne h2.symm]; exact P.r, by rw [upd_ne h3.symm]; exact P.c, P.np, P.nr⟩
theorem same_upd (h : H p = Option.none) : Same H (upd H p o) := fun b u e => by rw [upd_ne (ne_of_none e h)]; exact e
theorem vis_upd (hp : g.live = true → p ≠ g.pc) : vis g (upd H p o) = upd (vis g H) p o := by
  funext a
  unfold vis upd
  by_cases e : a = p
  · subst e
    have : ¬ (g.live = true ∧ a = g.pc) := fun z => hp z.1 z.2
    simp only [if_true, if_neg this]
  · simp only [if_neg e]
/-- a new object, left open -/
theorem Grow.new (P : PoolAt g n H) (h : H p = Option.none) : Grow g F H F (upd H p o) := by
  have hp := fun hl => (P.fresh h hl).2.2
  refine ⟨Same.refl _, ?_, fun hl z => ?_, fun _ _ => rfl⟩
  · rw [vis_upd hp]
    exact same_upd (by rw [vis_ne hp]; exact h)
  · rw [upd_ne (hp hl).symm]; exact z
/-- a new object, frozen -/
theorem Grow.newF (s : Same F (vis g H)) (P : PoolAt g n H) (h : H p = Option.none) : Grow g F H (upd F p o) (upd H p o) := by
  have hF := sub_none s h
  obtain ⟨_, h2, h3, _⟩ := Grow.new (F := F) (o := o) P h
  exact ⟨same_upd hF, h2, h3, fun a z => by rw [upd_ne]; intro e; subst e; rw [h] at z; cases z⟩
theorem sub_new (s : Same F (vis g H)) (P : PoolAt g n H) (h : H p = Option.none) : Same F (vis g (upd H p o)) := s.trans (Grow.new (F := F) P h).h
theorem sub_newF (s : Same F (vis g H)) (P : PoolAt g n H) (h : H p = Option.none) : Same (upd F p o) (vis g (upd H p o)) := by
  have hp := fun hl => (P.fresh h hl).2.2
  rw [vis_upd hp]
  intro b u e
  by_cases hb : b = p
  · subst hb; rw [upd_same] at e ⊢; exact e
  · rw [upd_ne hb] at e ⊢; exact s b u e
/-- freezing what stood open -/
theorem sub_frz (s : Same F (vis g H)) (h : H p = some o) (hp : g.live = true → p ≠ g.pc) : Same (upd F p o) (vis g H) := by
  intro b u e
  by_cases hb : b = p
  · subst hb; rw [upd_same] at e; cases e; rw [vis_ne hp]; exact h
  · rw [upd_ne hb] at e; exact s b u e
end

/-! ### what a frame holds -/
inductive Sl where
  | un | val (d : D) | own (d : D)
  deriving Inhabited
abbrev Rho := List Sl

/-- an open list at a -/
def Own (g : Gh) (F H : Hp) (a : Addr) (d : D) : Prop := ∃ vs ds, d = .lst ds ∧ H a = some (.lst vs) ∧ RepAll g F vs ds

def SlotOk (g : Gh) (F H H0 : Hp) (x : Option (Option V)) : Sl → Prop
  | .un => True
  | .val d => ∃ v, x = some (some v) ∧ Rep g F v d
  | .own d => ∃ a, x = some (some (.ref a)) ∧ Own g F H a d ∧ F a = Option.none ∧ H0 a = Option.none

def P0 (g : Gh) (H0 : Hp) : Prop := g.live = true → (H0 g.pp).isSome = true ∧ (H0 g.pr).isSome = true ∧ (H0 g.pc).isSome = true
structure Mdl (g : Gh) (F0 H0 F : Hp) (ρ : Rho) (n : Nat) (σ : St) (H : Hp) : Prop where
  gr : Grow g F0 H0 F H
  p0 : P0 g H0
  sub : Same F (vis g H)
  pool : PoolAt g n H
  len : ρ.length = σ.length
  slot : ∀ (i : Nat) (sl : Sl), ρ[i]? = some sl → SlotOk g F H H0 (σ[i]?) sl
  dis : ∀ (i j : Nat) (di dj : D) (a : Addr), ρ[i]? = some (.own di) → ρ[j]? = some (.own dj) → σ[i]? = some (some (.ref a)) → σ[j]? = some (some (.ref a)) → i = j

theorem Own.grow {g : Gh} {F H F' H' : Hp} {a : Addr} {d : D} (o : Own g F H a d) (gr : Grow g F H F' H') (ne : g.live = true → a ≠ g.pc) : Own g F' H' a d := by
  obtain ⟨vs, ds, e, h, r⟩ := o
  refine ⟨vs, ds, e, ?_, r.mono gr.f⟩
  have := gr.h a _ (by rw [vis_ne ne]; exact h)
  rwa [vis_ne ne] at this
theorem Own.isSome {g : Gh} {F H : Hp} {a : Addr} {d : D} (o : Own g F H a d) : (H a).isSome = true := by
  obtain ⟨vs, ds, e, h, r⟩ := o
  rw [h]; rfl
theorem H0_ne {g : Gh} {H0 : Hp} {a : Addr} (p0 : P0 g H0) (h : H0 a = Option.none) : g.live = true → a ≠ g.pp ∧ a ≠ g.pr ∧ a ≠ g.pc := by
  intro hl
  obtain ⟨h1, h2, h3⟩ := p0 hl
  refine ⟨?_, ?_, ?_⟩ <;> intro e <;> subst e
  · rw [h] at h1; cases h1
  · rw [h] at h2; cases h2
  · rw [h] at h3; cases h3

/-- behind an expression -/
theorem Mdl.grow {g : Gh} {F0 H0 F F' H H' : Hp} {ρ : Rho} {n n' : Nat} {σ : St} (m : Mdl g F0 H0 F ρ n σ H) (gr : Grow g F H F' H') (s : Same F' (vis g H')) (P : PoolAt g n' H') : Mdl g F0 H0 F' ρ n' σ H' := by
  refine ⟨m.gr.trans gr, m.p0, s, P, m.len, fun i sl e => ?_, m.dis⟩
  have h := m.slot i sl e
  cases sl with
  | un => trivial
  | val d =>
    obtain ⟨v, e1, r⟩ := h
    exact ⟨v, e1, r.mono gr.f⟩
  | own d =>
    obtain ⟨a, e1, o, f, h0⟩ := h
    have ne := fun hl => (H0_ne m.p0 h0 hl).2.2
    exact ⟨a, e1, o.grow gr ne, by rw [gr.nw a o.isSome]; exact f, h0⟩

/-- frozen, or the content of an open list -/
def PRep (g : Gh) (F H : Hp) (v : V) (d : D) : Prop := Rep g F v d ∨ ∃ a, v = .ref a ∧ Own g F H a d ∧ (g.live = true → a ≠ g.pc)
theorem PRep.grow {g : Gh} {F H F' H' : Hp} {v : V} {d : D} (r : PRep g F H v d) (gr : Grow g F H F' H') : PRep g F' H' v d := by
  rcases r with r | ⟨a, e, o, ne⟩
  · exact .inl (r.mono gr.f)
  · exact .inr ⟨a, e, o.grow gr ne, ne⟩

/-! ### readings -/
/-- a value -/
def RdV (g : Gh) (f : Rho → M D) : TE := fun σ H Q => ∃ F0 H0 F ρ n d n', f ρ n = some (d, n') ∧ Mdl g F0 H0 F ρ n σ H ∧
  ∀ v F' H', Grow g F H F' H' → Same F' (vis g H') → PoolAt g n' H' → Rep g F' v d → Q v H'
/-- a value that is only looked at -/
def RdP (g : Gh) (f : Rho → M D) : TE := fun σ H Q => ∃ F0 H0 F ρ n d n', f ρ n = some (d, n') ∧ Mdl g F0 H0 F ρ n σ H ∧
  ∀ v F' H', Grow g F H F' H' → Same F' (vis g H') → PoolAt g n' H' → PRep g F' H' v d → Q v H'
/-- a new open list -/
def RdF (g : Gh) (f : Rho → M D) : TE := fun σ H Q => ∃ F0 H0 F ρ n d n', f ρ n = some (d, n') ∧ Mdl g F0 H0 F ρ n σ H ∧
  ∀ a F' H', Grow g F H F' H' → Same F' (vis g H') → PoolAt g n' H' → H a = Option.none → F' a = Option.none → Own g F' H' a d → Q (.ref a) H'
/-- a test -/
def RdT (g : Gh) (f : Rho → M Bool) : TT := fun σ H Q => ∃ F0 H0 F ρ n b n', f ρ n = some (b, n') ∧ Mdl g F0 H0 F ρ n σ H ∧
  ∀ F' H', Grow g F H F' H' → Same F' (vis g H') → PoolAt g n' H' → Q b H'
/-- arguments -/
def RdA (g : Gh) (f : Rho → M (List D)) : TA := fun σ H Q => ∃ F0 H0 F ρ n ds n', f ρ n = some (ds, n') ∧ Mdl g F0 H0 F ρ n σ H ∧
  ∀ vs F' H', Grow g F H F' H' → Same F' (vis g H') → PoolAt g n' H' → RepAll g F' vs ds → Q vs H'
/-- arguments that are only looked at -/
inductive PRepAll (g : Gh) (F H : Hp) : List V → List D → Prop
  | nil : PRepAll g F H [] []
  | cons {v : V} {vs : List V} {d : D} {ds : List D} : PRep g F H v d → PRepAll g F H vs ds → PRepAll g F H (v :: vs) (d :: ds)
def RdAP (g : Gh) (f : Rho → M (List D)) : TA := fun σ H Q => ∃ F0 H0 F ρ n ds n', f ρ n = some (ds, n') ∧ Mdl g F0 H0 F ρ n σ H ∧
  ∀ vs F' H', Grow g F H F' H' → Same F' (vis g H') → PoolAt g n' H' → PRepAll g F' H' vs ds → Q vs H'
theorem PRepAll.grow {g : Gh} {F H F' H' : Hp} (gr : Grow g F H F' H') : ∀ {vs : List V} {ds : List D}, PRepAll g F H vs ds → PRepAll g F' H' vs ds
  | _, _, .nil => .nil
  | _, _, .cons h r => .cons (h.grow gr) (PRepAll.grow gr r)
theorem RepAll.peek {g : Gh} {F H : Hp} : ∀ {vs : List V} {ds : List D}, RepAll g F vs ds → PRepAll g F H vs ds
  | _, _, .nil => .nil
  | _, _, .cons h r => .cons (.inl h) (RepAll.peek r)

section
variable {X : Cx} {e : Expr}
theorem pe_wk {t t' : TE} (h : PE X e t) (w : ∀ σ H Q, t' σ H Q → t σ H Q) : PE X e t' := ⟨fun pins s σ H Q I hw => h.run pins s σ H Q I (w σ H Q hw)⟩
theorem pt_wk {t t' : TT} (h : PT X e t) (w : ∀ σ H Q, t' σ H Q → t σ H Q) : PT X e t' := ⟨fun pins s σ H Q I hw => h.run pins s σ H Q I (w σ H Q hw)⟩
theorem pw_wk {t t' : TT} (h : PW X e t) (w : ∀ σ H Q, t' σ H Q → t σ H Q) : PW X e t' := ⟨fun wh pins s σ H Q I hw => h.run wh pins s σ H Q I (w σ H Q hw)⟩
theorem pa_wk {es : List Expr} {t t' : TA} (h : PA X es t) (w : ∀ σ H Q, t' σ H Q → t σ H Q) : PA X es t' := ⟨fun pos pins s σ H Q I hw => h.run pos pins s σ H Q I (w σ H Q hw)⟩
theorem ps_wk {st : Stmt} {t t' : TS} (h : PS X st t) (w : ∀ D σ H, t' D σ H → t D σ H) : PS X st t' := ⟨fun pins s σ H D I hw => h.run pins s σ H D I (w D σ H hw)⟩
theorem pss_wk {st : List Stmt} {t t' : TS} (h : PSs X st t) (w : ∀ D σ H, t' D σ H → t D σ H) : PSs X st t' := ⟨fun pins s σ H D I hw => h.run pins s σ H D I (w D σ H hw)⟩
variable {g : Gh} {f : Rho → M D}
theorem peekV (h : PE X e (RdV g f)) : PE X e (RdP g f) := pe_wk h fun σ H Q ⟨F0, H0, F, ρ, n, d, n', e1, m, k⟩ =>
  ⟨F0, H0, F, ρ, n, d, n', e1, m, fun v F' H' gr s P r => k v F' H' gr s P (.inl r)⟩
/-- a new open list is frozen -/
theorem frzF (h : PE X e (RdF g f)) : PE X e (RdV g f) := pe_wk h fun σ H Q ⟨F0, H0, F, ρ, n, d, n', e1, m, k⟩ =>
  ⟨F0, H0, F, ρ, n, d, n', e1, m, fun a F' H' gr s P hn hf o => by
    obtain ⟨vs, ds, rfl, ho, r⟩ := o
    have ne : g.live = true → a ≠ g.pc := fun hl => (m.pool.fresh hn hl).2.2
    refine k (.ref a) (upd F' a (.lst vs)) H' ⟨gr.f.trans (same_upd hf), gr.h, gr.c, fun b z => ?_⟩ (sub_frz s ho ne) P (.lst upd_same (r.mono (same_upd hf)))
    rw [upd_ne]
    · exact gr.nw b z
    · rintro rfl
      rw [hn] at z; cases z⟩
end
end Ev

set_option Elab.async false
set_option linter.all false
set_option autoImplicit false
set_option maxRecDepth 100000
/-! Ev1: operations on data values, and the rules of expressions. -/
namespace Ev
open PySem PySem.Spec PyProof.Rows L2

/-! ### data -/
mutual
def D.py : D → PyData
  | .none => .none
  | .bool b => .bool b
  | .int i => .int i
  | .str s => .str s
  | .tup xs => .tuple (D.pys xs)
  | .lst xs => .list (D.pys xs)
  | .pool => .none
  | .scr _ => .none
def D.pys : List D → List PyData
  | [] => []
  | x :: xs => D.py x :: D.pys xs
end
mutual
def D.data : D → Bool
  | .none => true
  | .bool _ => true
  | .int _ => true
  | .str _ => true
  | .tup xs => D.datas xs
  | .lst xs => D.datas xs
  | .pool => false
  | .scr _ => false
def D.datas : List D → Bool
  | [] => true
  | x :: xs => D.data x && D.datas xs
end
section
variable {g : Gh} {H : Hp}
mutual
theorem Rep.dp : ∀ {v : V} {d : D}, Rep g H v d → d.data = true → Dp g.K H v d.py
  | _, _, .non, _ => .non
  | _, _, .bl b, _ => .bl b
  | _, _, .int i, _ => .int i
  | _, _, .str x, _ => .str x
  | _, _, .tup h r, e => .tup h (RepAll.dp r e)
  | _, _, .lst h r, e => .lst (.of h) (RepAll.dp r e)
  | _, _, .pool, e => by cases e
  | _, _, .scr h, e => by cases e
theorem RepAll.dp : ∀ {vs : List V} {ds : List D}, RepAll g H vs ds → D.datas ds = true → DpAll g.K H vs (D.pys ds)
  | _, _, .nil, _ => .nil
  | _, _, .cons h r, e => by
    have e' := Bool.and_eq_true_iff.mp e
    exact .cons (Rep.dp h e'.1) (RepAll.dp r e'.2)
end
end
theorem PRep.rep {g : Gh} {F H : Hp} {v : V} {d : D} (s : Same F (vis g H)) (r : PRep g F H v d) : Rep g H v d := by
  have s' := s.trans vis_same
  rcases r with r | ⟨a, rfl, ⟨vs, ds, rfl, h, r⟩, _⟩
  · exact r.mono s'
  · exact .lst h (r.mono s')

/-- data that can be compared -/
def okD (d : D) : Bool := d.data && SeqAt.shaped d.py
def eqD (x y : D) : Option Bool := if (okD x && okD y) = true then some (PyData.eqv x.py y.py) else none

/-! ### operations -/
def intsD : List D → Option (List Int)
  | [] => some []
  | .int i :: r => (intsD r).map (i :: ·)
  | _ :: _ => .none
theorem intsD_map {xs : List D} {ns : List Int} (h : intsD xs = some ns) : xs = ns.map D.int := by
  induction xs generalizing ns with
  | nil => cases h; rfl
  | cons x xs ih =>
    cases x with
    | int i =>
      simp only [intsD, Option.map_eq_some_iff] at h
      obtain ⟨ms, h1, rfl⟩ := h
      rw [ih h1]; rfl
    | _ => cases h
@[simp] theorem intsD_ints (ns : List Int) : intsD (ns.map D.int) = some ns := by
  induction ns with
  | nil => rfl
  | cons n ns ih => simp [intsD, ih]
theorem repAll_ints {g : Gh} {H : Hp} : ∀ {ns : List Int} {vs : List V}, RepAll g H vs (ns.map D.int) → vs = ns.map V.int
  | [], _, h => by cases h; rfl
  | n :: ns, _, h => by
    cases h with
    | cons h r => cases h; rw [repAll_ints r]; rfl
def addD : D → D → Option D
  | .int i, .int j => some (.int (i + j))
  | .str x, .str y => if x.length + y.length ≤ 16777216 then some (.str (x ++ y)) else none
  | .tup xs, .tup ys => if xs.length + ys.length ≤ 16777216 then some (.tup (xs ++ ys)) else none
  | .lst xs, .lst ys => if xs.length + ys.length ≤ 16777216 then some (.lst (xs ++ ys)) else none
  | _, _ => none
def subD : D → D → Option D
  | .int i, .int j => some (.int (i - j))
  | _, _ => none
def mulD : D → D → Option D
  | .int i, .int j => if (decide (-(2 ^ 64) < i) && decide (i < 2 ^ 64)) || (decide (-(2 ^ 64) < j) && decide (j < 2 ^ 64)) then some (.int (i * j)) else none
  | .tup xs, .int k => if k = 1 then some (.tup xs) else if !xs.isEmpty && decide (2 ≤ k) && decide (xs.length * k.toNat ≤ 1000000) then some (.tup (List.replicate k.toNat xs).flatten) else none
  | .lst xs, .int k => if decide (0 ≤ k) && decide (k ≤ 1000) && decide (xs.length ≤ 1000) then some (.lst (List.replicate k.toNat xs).flatten) else none
  | _, _ => none
def fdivD : D → D → Option D
  | .int i, .int j => if decide (j ≠ 0) && decide (j.natAbs < 1073741824) then some (.int (i.fdiv j)) else none
  | _, _ => none
def modD : D → D → Option D
  | .int i, .int j => if j ≠ 0 then some (.int (i.fmod j)) else none
  | _, _ => none
def ltD : D → D → Option Bool
  | .int i, .int j => some (decide (i < j))
  | .str i, .str j => some (decide (i.cps.toList < j.cps.toList))
  | .tup xs, .tup ys => match intsD xs, intsD ys with
    | some ns, some ms => some (HT.lexLt ns ms)
    | _, _ => none
  | _, _ => none
def leD : D → D → Option Bool
  | .int i, .int j => some (decide (i ≤ j))
  | _, _ => none
def isD : D → D → Option Bool
  | .bool a, .bool b => some (decide (a = b))
  | .none, .none => some true
  | _, .none => some false
  | _, _ => none
def inD : D → D → Option Bool
  | x, .tup ys => if okD x && okD (.tup ys) then some ((D.pys ys).any fun z => PyData.eqv z x.py) else none
  | x, .lst ys => if okD x && okD (.lst ys) then some ((D.pys ys).any fun z => PyData.eqv z x.py) else none
  | .str x, .str y => some (!(Builtin.Str.occurrences y x 0 y.length 1).isEmpty)
  | _, _ => none
def powD : D → D → Option D
  | .int i, .int j => if decide (0 ≤ j) && decide (j ≤ 1000000) && decide (i.natAbs < 2 ^ 64) then some (.int (i ^ j.toNat)) else none
  | _, _ => none
inductive BinO where
  | add | sub | mul | fdiv | mod | pow
  deriving DecidableEq
def BinO.py : BinO → Operator
  | .add => .Add | .sub => .Sub | .mul => .Mult | .fdiv => .FloorDiv | .mod => .Mod | .pow => .Pow
def binD : BinO → D → D → Option D
  | .add => addD | .sub => subD | .mul => mulD | .fdiv => fdivD | .mod => modD | .pow => powD
inductive CmpO where
  | eq | ne | lt | le | gt | ge | is | isNot | mem | notMem
  deriving DecidableEq
def CmpO.py : CmpO → CmpOp
  | .eq => .Eq | .ne => .NotEq | .lt => .Lt | .le => .LtE | .gt => .Gt | .ge => .GtE | .is => .Is | .isNot => .IsNot | .mem => .In | .notMem => .NotIn
def gtD : D → D → Option Bool
  | .int i, .int j => some (decide (j < i))
  | _, _ => none
def geD : D → D → Option Bool
  | .int i, .int j => some (decide (j ≤ i))
  | _, _ => none
def cmpD : CmpO → D → D → Option Bool
  | .eq, x, y => eqD x y
  | .ne, x, y => (eqD x y).map (!·)
  | .lt, x, y => ltD x y
  | .le, x, y => leD x y
  | .gt, x, y => gtD x y
  | .ge, x, y => geD x y
  | .is, x, y => isD x y
  | .isNot, x, y => (isD x y).map (!·)
  | .mem, x, y => inD x y
  | .notMem, x, y => (inD x y).map (!·)

/-! ### what an operation's rule must give -/
def OpOk (g : Gh) (r : R2) (op : D → D → Option D) : Prop := ∀ (F H : Hp) (n : Nat) (x y : V) (dx dy d : D) (Q : VK), Same F (vis g H) → PoolAt g n H → PRep g F H x dx → PRep g F H y dy → op dx dy = some d →
  (∀ v F' H', Grow g F H F' H' → Same F' (vis g H') → PoolAt g n H' → Rep g F' v d → Q v H') → r x y H Q
theorem OpOk.same {g : Gh} {F H : Hp} {n : Nat} {v : V} {d : D} {Q : VK} (s : Same F (vis g H)) (P : PoolAt g n H) (k : ∀ v F' H', Grow g F H F' H' → Same F' (vis g H') → PoolAt g n H' → Rep g F' v d → Q v H') (r : Rep g F v d) : Q v H := k v F H Grow.refl s P r
/-- a new tuple, frozen -/
theorem OpOk.tup {g : Gh} {F H : Hp} {n : Nat} {vs : List V} {ds : List D} {p : Addr} {Q : VK} (s : Same F (vis g H)) (P : PoolAt g n H) (k : ∀ v F' H', Grow g F H F' H' → Same F' (vis g H') → PoolAt g n H' → Rep g F' v (.tup ds) → Q v H') (r : RepAll g F vs ds) (hp : H p = Option.none) :
    Q (.ref p) (upd H p (.tup vs)) := k _ (upd F p (.tup vs)) _ (Grow.newF s P hp) (sub_newF s P hp) (P.upd hp) (.tup (.of upd_same) (r.mono (same_upd (sub_none s hp))))
theorem OpOk.lst {g : Gh} {F H : Hp} {n : Nat} {vs : List V} {ds : List D} {p : Addr} {Q : VK} (s : Same F (vis g H)) (P : PoolAt g n H) (k : ∀ v F' H', Grow g F H F' H' → Same F' (vis g H') → PoolAt g n H' → Rep g F' v (.lst ds) → Q v H') (r : RepAll g F vs ds) (hp : H p = Option.none) :
    Q (.ref p) (upd H p (.lst vs)) := k _ (upd F p (.lst vs)) _ (Grow.newF s P hp) (sub_newF s P hp) (P.upd hp) (.lst upd_same (r.mono (same_upd (sub_none s hp))))

section
variable {g : Gh} {F H : Hp} {v : V}
/-- a list's content, frozen or open -/
theorem PRep.lstE {ds : List D} (s : Same F (vis g H)) (r : PRep g F H v (.lst ds)) : ∃ a vs, v = .ref a ∧ H a = some (.lst vs) ∧ RepAll g F vs ds := by
  rcases r with r | ⟨a, rfl, ⟨vs, ds', e, h, r⟩, _⟩
  · cases r with
    | lst h r => exact ⟨_, _, rfl, (vis_some (s _ _ h)).2, r⟩
  · cases e; exact ⟨_, _, rfl, h, r⟩
theorem PRep.tupE {ds : List D} (s : Same F (vis g H)) (r : PRep g F H v (.tup ds)) : ∃ a vs, v = .ref a ∧ SqT g.K F a vs ∧ SqT g.K H a vs ∧ RepAll g F vs ds := by
  rcases r with r | ⟨a, rfl, ⟨vs, ds', e, h, r⟩, _⟩
  · cases r with
    | tup h r => exact ⟨_, _, rfl, h, seqT_mono (s.trans vis_same) h, r⟩
  · cases e
theorem PRep.intE {i : Int} (r : PRep g F H v (.int i)) : v = .int i := by
  rcases r with r | ⟨a, rfl, ⟨vs, ds', e, h, r⟩, _⟩
  · cases r; rfl
  · cases e
theorem PRep.boolE {b : Bool} (r : PRep g F H v (.bool b)) : v = .bl b := by
  rcases r with r | ⟨a, rfl, ⟨vs, ds', e, h, r⟩, _⟩
  · cases r; rfl
  · cases e
theorem PRep.strE {x : Str} (r : PRep g F H v (.str x)) : v = .str x := by
  rcases r with r | ⟨a, rfl, ⟨vs, ds', e, h, r⟩, _⟩
  · cases r; rfl
  · cases e
theorem PRep.noneE (r : PRep g F H v .none) : v = .non := by
  rcases r with r | ⟨a, rfl, ⟨vs, ds', e, h, r⟩, _⟩
  · cases r; rfl
  · cases e
theorem PRep.scrE {ns : List Int} (s : Same F (vis g H)) (r : PRep g F H v (.scr ns)) : ∃ a, v = .ref a ∧ SqL g.K H a (ns.map V.int) := by
  rcases r with r | ⟨a, rfl, ⟨vs, ds', e, h, r⟩, _⟩
  · cases r with
    | scr h => exact ⟨_, rfl, (s.trans vis_same).seq h⟩
  · cases e
theorem Rep.not_non {d : D} (r : Rep g F v d) (h : v = .non) : d = .none := by
  subst h; cases r; rfl
end
theorem sz : (16777216 : Nat) = sizeLine := sizeLine_eq.symm

section
variable {X : Cx} {g : Gh}
abbrev rAddD (K : PySem.W.Frag) : R2 := fun x y H Q => (∃ i j, x = .int i ∧ y = .int j ∧ Q (.int (i + j)) H) ∨ (∃ i j, x = .str i ∧ y = .str j ∧ i.length + j.length ≤ sizeLine ∧ Q (.str (i ++ j)) H) ∨ rCatA K x y H Q ∨ rCat x y H Q
theorem op_addD : OpR X (binaryOp .Add) (rAddD X.K) := op_add.or (op_add_str.or (op_catA.or op_cat))
theorem ok_add (hK : X.K = g.K) : OpOk g (rAddD X.K) addD := by
  intro F H n x y dx dy d Q s P rx ry e k
  cases dx <;> cases dy <;> simp only [addD, reduceCtorEq] at e
  · cases e
    exact .inl ⟨_, _, rx.intE, ry.intE, OpOk.same s P k (.int _)⟩
  · split at e <;> cases e
    rename_i h
    exact .inr (.inl ⟨_, _, rx.strE, ry.strE, by rw [← sz]; exact h, OpOk.same s P k (.str _)⟩)
  · rename_i xs ys
    split at e <;> cases e
    rename_i h
    obtain ⟨a, vs, rfl, fa, ha, ra⟩ := rx.tupE s
    obtain ⟨b, ws, rfl, fb, hb, rb⟩ := ry.tupE s
    have l1 := ra.length
    have l2 := rb.length
    refine .inr (.inr (.inl ⟨a, b, vs, ws, rfl, rfl, by rw [hK]; exact ha, by rw [hK]; exact hb, by rw [← sz]; omega, fun z => ?_, fun _ z => ?_, fun _ _ p hp => OpOk.tup s P k (ra.append rb) hp⟩))
    · subst z
      cases ra
      exact OpOk.same s P k (.tup fb rb)
    · subst z
      cases rb
      rw [List.append_nil] at k
      exact OpOk.same s P k (.tup fa ra)
  · rename_i xs ys
    split at e <;> cases e
    rename_i h
    obtain ⟨a, vs, rfl, ha, ra⟩ := rx.lstE s
    obtain ⟨b, ws, rfl, hb, rb⟩ := ry.lstE s
    have l1 := ra.length
    have l2 := rb.length
    exact .inr (.inr (.inr ⟨a, b, vs, ws, rfl, rfl, ha, hb, by rw [← sz]; omega, fun p hp => OpOk.lst s P k (ra.append rb) hp⟩))
theorem ok_sub : OpOk g (rI0 fun i j => .int (i - j)) subD := by
  intro F H n x y dx dy d Q s P rx ry e k
  cases dx <;> cases dy <;> simp only [subD, reduceCtorEq] at e
  cases e
  exact ⟨_, _, rx.intE, ry.intE, OpOk.same s P k (.int _)⟩
theorem ok_mod : OpOk g (rI (fun _ j => j ≠ 0) fun i j => .int (i.fmod j)) modD := by
  intro F H n x y dx dy d Q s P rx ry e k
  cases dx <;> cases dy <;> simp only [modD, reduceCtorEq] at e
  split at e <;> cases e
  rename_i h
  exact ⟨_, _, rx.intE, ry.intE, h, OpOk.same s P k (.int _)⟩
theorem ok_fdiv : OpOk g (rI CDivN fun i j => .int (i.fdiv j)) fdivD := by
  intro F H n x y dx dy d Q s P rx ry e k
  cases dx <;> cases dy <;> simp only [fdivD, reduceCtorEq] at e
  split at e <;> cases e
  rename_i h
  simp only [Bool.and_eq_true, decide_eq_true_eq] at h
  exact ⟨_, _, rx.intE, ry.intE, h, OpOk.same s P k (.int _)⟩
theorem ok_pow : OpOk g (rI CPow fun i j => .int (i ^ j.toNat)) powD := by
  intro F H n x y dx dy d Q s P rx ry e k
  cases dx <;> cases dy <;> simp only [powD, reduceCtorEq] at e
  split at e <;> cases e
  rename_i h
  simp only [Bool.and_eq_true, decide_eq_true_eq] at h
  exact ⟨_, _, rx.intE, ry.intE, ⟨h.1.1, h.1.2, h.2⟩, OpOk.same s P k (.int _)⟩
theorem RepAll.rep {g : Gh} {F : Hp} {vs : List V} {ds : List D} (h : RepAll g F vs ds) : ∀ m : Nat, RepAll g F (List.replicate m vs).flatten (List.replicate m ds).flatten
  | 0 => .nil
  | m + 1 => by
    rw [List.replicate_succ, List.replicate_succ, List.flatten_cons, List.flatten_cons]
    exact h.append (RepAll.rep h m)
/-- t * 1 is t -/
theorem tuple_mul1 (l : Addr) (items : Array Value) (n : Nat) (dd : Option Addr) (sl : Array (Option Value)) (u : Tok) :
    Meets (Builtin.«tuple.__mul__» ⟨[.ref l, .int 1 u], []⟩) (fun _ R s => s.heap.get? l = some { cls := .type "tuple", dict := dd, data := .seq items n, slots := sl } ∧
      R (.ok (.ret (Value.ref l))) s) :=
  .of_wp fun prog w A R s h => by
    obtain ⟨hp, g, d, tk, os⟩ := s
    obtain ⟨hl, h⟩ := h
    have f1 := AutoSeq1.idx_int
    wp_walk using wpAny_loadPart' hl
    exact ⟨_, rfl, h⟩
def rRepT1 (K : PySem.W.Frag) : R2 := fun x y H Q => ∃ l xs, x = .ref l ∧ y = .int 1 ∧ SqT K H l xs ∧ Q (.ref l) H
theorem op_repT1 : OpR X (binaryOp .Mult) (rRepT1 X.K) := by
  intro pins s σ H x y v u Q I rx ry h
  obtain ⟨l, xs, rfl, rfl, hT, q⟩ := h
  cases rx
  obtain ⟨t, rfl⟩ := ry
  obtain ⟨its, r, ⟨⟨cls, dd, data, sl⟩, ho, hc, n, hd⟩, hs⟩ := I.tuple hT
  simp only at hc hd
  subst hc hd
  exact wpAny_binaryOp_repeat_ref (T := "tuple") (U := "int") (by decide) ⟨_, ho, rfl⟩ (fun s' => typeIs_int s' 1 t) noFill_tuple_mul F.fills_int_mul F.slot_int_rmul repeat_tuple F.slot_int_index.lookup
    (call_meets F.slot_int_rmul (typeIs_int s 1 t) F.entry_int_rmul (F.args_int_rmul_2 _ _) (int_rmul_tuple 1 t l its.toArray n dd sl)
      ⟨ho, rfl, ⟨_, ho, rfl⟩, call_meets F.slot_tuple_mul ⟨_, ho, rfl⟩ F.entry_tuple_mul (F.args_tuple_mul_2 _ _) (tuple_mul1 l its.toArray n dd sl t) ⟨ho, .ref l, H, I, rfl, q⟩⟩)
/-- t * k, a product of any shape below a million -/
def rRepTG (K : PySem.W.Frag) : R2 := fun x y H Q => ∃ ad k vs, x = .ref ad ∧ y = .int k ∧ SqT K H ad vs ∧ vs ≠ [] ∧ 2 ≤ k ∧ vs.length * k.toNat ≤ 1000000 ∧ ∀ p, H p = none → Q (.ref p) (upd H p (.tup (List.replicate k.toNat vs).flatten))
theorem op_repTG {X : Cx} : OpR X (binaryOp .Mult) (rRepTG X.K) := by
  intro pins s σ H x y v u Q I rx ry h
  obtain ⟨ad, k, vs, rfl, rfl, hT, hne, hk2, hb, q⟩ := h
  cases rx
  obtain ⟨tk, rfl⟩ := ry
  obtain ⟨ws, r, ⟨⟨cls, dd, data, sl⟩, ho, hc, n, hd⟩, hs⟩ := I.tuple hT
  simp only at hc hd
  subst hc hd
  have elen : ws.length = vs.length := r.length.symm
  obtain ⟨m, rfl⟩ : ∃ m : Nat, k = m := ⟨k.toNat, by omega⟩
  rw [Int.toNat_natCast] at hb q
  have pos : 0 < vs.length := List.length_pos_iff.mpr hne
  have bnd : m ≤ 1000000 := Nat.le_trans (Nat.le_mul_of_pos_left m pos) hb
  have prod : (ws.toArray.size : Int) * (m : Int) ≤ 1000000 := by
    rw [List.size_toArray, elen]
    rw [← Int.natCast_mul]
    exact Int.ofNat_le.mpr hb
  have pos2 : ws.toArray.isEmpty = false := by
    cases ws with
    | nil => rw [List.length_nil] at elen; omega
    | cons => rfl
  have fl : (List.replicate m ws).flatten.length ≤ sizeLine := by
    rw [PyProof.Rows.lm_len_rep_flat, elen, sizeLine_eq, Nat.mul_comm]
    omega
  have d0 : (decide ((m : Int) < -(2 ^ 63)) || decide ((m : Int) ≥ 2 ^ 63)) = false := by
    rw [Bool.or_eq_false_iff]
    exact ⟨decide_eq_false (by omega), decide_eq_false (by omega)⟩
  have d1 : (ws.toArray.isEmpty || (m : Int) == 1) = false := by
    rw [pos2, Bool.false_or, beq_eq_false_iff_ne]
    omega
  have d2 : (decide ((m : Int) ≤ 0) || ws.toArray.isEmpty) = false := by
    rw [pos2, Bool.or_false, decide_eq_false_iff_not]
    omega
  have d4 : Builtin.Tuple.tupleTooMany ((ws.toArray.size : Int) * (m : Int)) = false := by
    unfold Builtin.Tuple.tupleTooMany
    rw [sizeLine_eq, decide_eq_false_iff_not]
    omega
  have room : (List.foldl (fun x1 x2 => x1 ++ x2) #[] (List.replicate ((m : Int)).toNat ws.toArray)).size ≤ sizeLine := by
    rw [Int.toNat_natCast, size_rep, List.size_toArray]
    exact fl
  have mt := tuple_mulW ad ws.toArray n dd sl m tk d0 d1 d2 (by omega) d4 room
  refine wpAny_binaryOp_repeat_ref (T := "tuple") (U := "int") (by decide) ⟨_, ho, rfl⟩ (fun s' => typeIs_int s' m tk) noFill_tuple_mul F.fills_int_mul F.slot_int_rmul repeat_tuple F.slot_int_index.lookup ?_
  refine call_meets F.slot_int_rmul (typeIs_int s m tk) F.entry_int_rmul (F.args_int_rmul_2 _ _) (int_rmul_tuple m tk ad ws.toArray n dd sl) ⟨ho, rfl, ⟨_, ho, rfl⟩, ?_⟩
  refine call_meets F.slot_tuple_mul ⟨_, ho, rfl⟩ F.entry_tuple_mul (F.args_tuple_mul_2 _ _) mt ⟨ho, ?_⟩
  rw [Int.toNat_natCast, size_rep]
  refine ⟨.ref s.heap.objs.size, upd H s.heap.objs.size (.tup (List.replicate m vs).flatten), ?_, rfl, q _ (I.hok.fresh (Nat.le_refl _))⟩
  refine I.laid (t' := s.toks) (fun b ob z => Heap.get?_push_of_some _ z) (Nat.le_refl _) ⟨?_, _, r.rep m, IsTup.new _ _⟩
  rw [PyProof.Rows.lm_len_rep_flat, sizeLine_eq, Nat.mul_comm]
  omega
abbrev rMulD (K : PySem.W.Frag) : R2 := fun x y H Q => rI CMul (fun i j => .int (i * j)) x y H Q ∨ rRepTG K x y H Q ∨ rRep x y H Q ∨ rRepT1 K x y H Q
theorem op_mulD : OpR X (binaryOp .Mult) (rMulD X.K) := op_mul.or (op_repTG.or (op_rep.or op_repT1))
theorem ok_mul (hK : X.K = g.K) : OpOk g (rMulD X.K) mulD := by
  intro F H n x y dx dy d Q s P rx ry e k
  cases dx <;> cases dy <;> simp only [mulD, reduceCtorEq] at e
  · split at e <;> cases e
    rename_i h
    simp only [Bool.or_eq_true, Bool.and_eq_true, decide_eq_true_eq] at h
    exact .inl ⟨_, _, rx.intE, ry.intE, h, OpOk.same s P k (.int _)⟩
  · rename_i xs j
    split at e
    · rename_i h1
      subst h1
      cases e
      obtain ⟨a, vs, rfl, fa, ha, ra⟩ := rx.tupE s
      exact .inr (.inr (.inr ⟨a, vs, rfl, ry.intE, by rw [hK]; exact ha, OpOk.same s P k (.tup fa ra)⟩))
    split at e <;> cases e
    rename_i h
    simp only [Bool.and_eq_true, decide_eq_true_eq, Bool.not_eq_true'] at h
    obtain ⟨a, vs, rfl, fa, ha, ra⟩ := rx.tupE s
    have l1 := ra.length
    refine .inr (.inl ⟨a, _, vs, rfl, ry.intE, by rw [hK]; exact ha, ?_, h.1.2, by rw [l1]; exact h.2, fun p hp => OpOk.tup s P k (ra.rep _) hp⟩)
    rintro rfl
    cases ra
    simp at h
  · rename_i xs j
    split at e <;> cases e
    rename_i h
    simp only [Bool.and_eq_true, decide_eq_true_eq] at h
    obtain ⟨a, vs, rfl, ha, ra⟩ := rx.lstE s
    have l1 := ra.length
    refine .inr (.inr (.inl ⟨a, _, vs, rfl, ry.intE, ha, by omega, by omega, ?_, fun p hp => OpOk.lst s P k (ra.rep _) hp⟩))
    rw [sizeLine_eq]
    have : vs.length * j.toNat ≤ 1000 * 1000 := Nat.mul_le_mul (by omega) (by omega)
    omega

theorem de_bin {o : Operator} {r : R2} {f : D → D → Option D} {a b : Expr} {pos : Pos} {fa fb : Rho → M D} (ho : OpR X (binaryOp o) r) (hk : OpOk g r f) (ha : PE X a (RdP g fa)) (hb : PE X b (RdP g fb)) :
    PE X (.BinOp a o b pos) (RdV g fun ρ => do let x ← fa ρ; let y ← fb ρ; M.opt (f x y)) := by
  refine pe_wk (pe_op ho ha hb) fun σ H Q ⟨F0, H0, F, ρ, n, d, n', e, m, k⟩ => ?_
  obtain ⟨x, n1, e1, e⟩ := M.bind_some e
  obtain ⟨y, n2, e2, e⟩ := M.bind_some e
  obtain ⟨e3, e4⟩ := M.opt_ok e
  simp only at e3 e4
  subst e4
  refine ⟨F0, H0, F, ρ, n, x, n1, e1, m, fun v1 F1 H1 g1 s1 P1 r1 => ⟨F0, H0, F1, ρ, n1, y, _, e2, m.grow g1 s1 P1, fun v2 F2 H2 g2 s2 P2 r2 => ?_⟩⟩
  exact hk F2 H2 _ v1 v2 x y d Q s2 P2 (r1.grow g2) r2 e3 fun v F' H' g3 s3 P3 r3 => k v F' H' (g1.trans (g2.trans g3)) s3 P3 r3
end
end Ev

set_option Elab.async false
set_option linter.all false
set_option autoImplicit false
set_option maxRecDepth 100000
/-! Ev2: comparisons, truth, tests, items, slices, displays. -/
namespace Ev
open PySem PySem.Spec PyProof.Rows L2

def truD : D → Option Bool
  | .none => some false
  | .bool b => some b
  | .int i => some (i != 0)
  | .str x => if x.length ≤ 16777216 then some ((x.length : Int) != 0) else none
  | .tup xs => some (!xs.isEmpty)
  | .lst xs => some (!xs.isEmpty)
  | .pool => none
  | .scr _ => none
def tst (f : Rho → M D) : Rho → M Bool := fun ρ => do let d ← f ρ; M.opt (truD d)

section
variable {X : Cx} {g : Gh}
theorem tOp_of {r : R2} {f : D → D → Option D} {fa fb : Rho → M D} {σ : St} {H : Hp} {Q : VK} (hk : OpOk g r f) (h : RdV g (fun ρ => do let x ← fa ρ; let y ← fb ρ; M.opt (f x y)) σ H Q) : tOp r (RdP g fa) (RdP g fb) σ H Q := by
  obtain ⟨F0, H0, F, ρ, n, d, n', e, m, k⟩ := h
  obtain ⟨x, n1, e1, e⟩ := M.bind_some e
  obtain ⟨y, n2, e2, e⟩ := M.bind_some e
  obtain ⟨e3, e4⟩ := M.opt_ok e
  simp only at e3 e4
  subst e4
  refine ⟨F0, H0, F, ρ, n, x, n1, e1, m, fun v1 F1 H1 g1 s1 P1 r1 => ⟨F0, H0, F1, ρ, n1, y, _, e2, m.grow g1 s1 P1, fun v2 F2 H2 g2 s2 P2 r2 => ?_⟩⟩
  exact hk F2 H2 _ v1 v2 x y d Q s2 P2 (r1.grow g2) r2 e3 fun v F' H' g3 s3 P3 r3 => k v F' H' (g1.trans (g2.trans g3)) s3 P3 r3

/-! ### comparisons -/
theorem ok_eq (hK : X.K = g.K) : OpOk g (rEqD X.K) (fun x y => (cmpD .eq x y).map D.bool) := by
  intro F H n x y dx dy d Q s P rx ry e k
  simp only [cmpD, eqD] at e
  split at e
  · rename_i h
    simp only [Option.map_some, Option.some.injEq] at e
    subst e
    simp only [okD, Bool.and_eq_true] at h
    refine ⟨dx.py, dy.py, ?_, ?_, h.1.2, h.2.2, OpOk.same s P k (.bl _)⟩
    · rw [hK]; exact (rx.rep s).dp h.1.1
    · rw [hK]; exact (ry.rep s).dp h.2.1
  · cases e
theorem ok_ne (hK : X.K = g.K) : OpOk g (rNeD X.K) (fun x y => (cmpD .ne x y).map D.bool) := by
  intro F H n x y dx dy d Q s P rx ry e k
  simp only [cmpD, eqD] at e
  split at e
  · rename_i h
    simp only [Option.map_some, Option.some.injEq] at e
    subst e
    simp only [okD, Bool.and_eq_true] at h
    refine ⟨dx.py, dy.py, ?_, ?_, h.1.2, h.2.2, OpOk.same s P k (.bl _)⟩
    · rw [hK]; exact (rx.rep s).dp h.1.1
    · rw [hK]; exact (ry.rep s).dp h.2.1
  · cases e
abbrev rLtD (K : PySem.W.Frag) : R2 := fun x y H Q => rI0 (fun i j => .bl (decide (i < j))) x y H Q ∨ (∃ i j, x = .str i ∧ y = .str j ∧ Q (.bl (decide (i.cps.toList < j.cps.toList))) H) ∨ rLtT K x y H Q
theorem op_ltD (hu : X.A.units < cLine) : OpR X (compareOp .Lt) (rLtD X.K) := op_lt.or (op_lt_str.or (op_ltT hu))
theorem ok_lt (hK : X.K = g.K) : OpOk g (rLtD X.K) (fun x y => (cmpD .lt x y).map D.bool) := by
  intro F H n x y dx dy d Q s P rx ry e k
  simp only [cmpD] at e
  cases dx <;> cases dy <;> simp only [ltD, Option.map_none, reduceCtorEq] at e
  · cases e
    exact .inl ⟨_, _, rx.intE, ry.intE, OpOk.same s P k (.bl _)⟩
  · cases e
    exact .inr (.inl ⟨_, _, rx.strE, ry.strE, OpOk.same s P k (.bl _)⟩)
  · rename_i xs ys
    split at e
    · rename_i ns ms h1 h2
      simp only [Option.map_some, Option.some.injEq] at e
      subst e
      rw [intsD_map h1] at rx
      rw [intsD_map h2] at ry
      obtain ⟨a, vs, rfl, fa, ha, ra⟩ := rx.tupE s
      obtain ⟨b, ws, rfl, fb, hb, rb⟩ := ry.tupE s
      rw [repAll_ints ra] at ha
      rw [repAll_ints rb] at hb
      exact .inr (.inr ⟨a, b, ns, ms, rfl, rfl, by rw [hK]; exact ha, by rw [hK]; exact hb, OpOk.same s P k (.bl _)⟩)
    · cases e
theorem ok_le : OpOk g (rI0 fun i j => .bl (decide (i ≤ j))) (fun x y => (cmpD .le x y).map D.bool) := by
  intro F H n x y dx dy d Q s P rx ry e k
  simp only [cmpD] at e
  cases dx <;> cases dy <;> simp only [leD, Option.map_none, reduceCtorEq] at e
  cases e
  exact ⟨_, _, rx.intE, ry.intE, OpOk.same s P k (.bl _)⟩
theorem ok_gt : OpOk g (rI0 fun i j => .bl (decide (j < i))) (fun x y => (cmpD .gt x y).map D.bool) := by
  intro F H n x y dx dy d Q s P rx ry e k
  simp only [cmpD] at e
  cases dx <;> cases dy <;> simp only [gtD, Option.map_none, reduceCtorEq] at e
  cases e
  exact ⟨_, _, rx.intE, ry.intE, OpOk.same s P k (.bl _)⟩
theorem ok_ge : OpOk g (rI0 fun i j => .bl (decide (j ≤ i))) (fun x y => (cmpD .ge x y).map D.bool) := by
  intro F H n x y dx dy d Q s P rx ry e k
  simp only [cmpD] at e
  cases dx <;> cases dy <;> simp only [geD, Option.map_none, reduceCtorEq] at e
  cases e
  exact ⟨_, _, rx.intE, ry.intE, OpOk.same s P k (.bl _)⟩
abbrev rIsD : R2 := fun x y H Q => (y = .non ∧ Q (.bl (decide (x = .non))) H) ∨ rIsB x y H Q
abbrev rIsNotD : R2 := fun x y H Q => (y = .non ∧ Q (.bl (!decide (x = .non))) H) ∨ rNotB x y H Q
theorem op_isD : OpR X (compareOp .Is) rIsD := op_isN.or op_isBl
theorem op_isNotD : OpR X (compareOp .IsNot) rIsNotD := op_notN.or op_notBl
theorem isD_cases {dx dy : D} {b : Bool} (h : isD dx dy = some b) : (∃ p q, dx = .bool p ∧ dy = .bool q ∧ b = decide (p = q)) ∨ (dy = .none ∧ ((dx = .none ∧ b = true) ∨ (dx ≠ .none ∧ b = false))) := by
  cases dx <;> cases dy <;> simp only [isD, reduceCtorEq] at h <;> cases h <;> simp
theorem is_non {F H : Hp} {x : V} {dx : D} (s : Same F (vis g H)) (rx : PRep g F H x dx) : decide (x = V.non) = true ↔ dx = .none := by
  have r := rx.rep s
  cases r <;> simp
theorem ok_is : OpOk g rIsD (fun x y => (cmpD .is x y).map D.bool) := by
  intro F H n x y dx dy d Q s P rx ry e k
  simp only [cmpD, Option.map_eq_some_iff] at e
  obtain ⟨b, e, rfl⟩ := e
  rcases isD_cases e with ⟨p, q, rfl, rfl, rfl⟩ | ⟨rfl, h⟩
  · exact .inr ⟨p, q, rx.boolE, ry.boolE, OpOk.same s P k (.bl _)⟩
  · refine .inl ⟨ry.noneE, ?_⟩
    have hb : decide (x = V.non) = b := by
      rcases h with ⟨h, rfl⟩ | ⟨h, rfl⟩
      · exact (is_non s rx).mpr h
      · exact Bool.eq_false_iff.mpr fun z => h ((is_non s rx).mp z)
    rw [hb]
    exact OpOk.same s P k (.bl _)
theorem ok_isNot : OpOk g rIsNotD (fun x y => (cmpD .isNot x y).map D.bool) := by
  intro F H n x y dx dy d Q s P rx ry e k
  simp only [cmpD, Option.map_map, Option.map_eq_some_iff] at e
  obtain ⟨b, e, rfl⟩ := e
  rcases isD_cases e with ⟨p, q, rfl, rfl, rfl⟩ | ⟨rfl, h⟩
  · exact .inr ⟨p, q, rx.boolE, ry.boolE, OpOk.same s P k (.bl _)⟩
  · refine .inl ⟨ry.noneE, ?_⟩
    have hb : decide (x = V.non) = b := by
      rcases h with ⟨h, rfl⟩ | ⟨h, rfl⟩
      · exact (is_non s rx).mpr h
      · exact Bool.eq_false_iff.mpr fun z => h ((is_non s rx).mp z)
    rw [hb]
    exact OpOk.same s P k (.bl _)
def rInT (K : PySem.W.Frag) : R2 := fun x y H Q => ∃ d ds, Dp K H x d ∧ Dp K H y (.tuple ds) ∧ SeqAt.shaped d = true ∧ SeqAt.shaped (.tuple ds) = true ∧ Q (.bl (ds.any fun z => PyData.eqv z d)) H
def rNotInT (K : PySem.W.Frag) : R2 := fun x y H Q => ∃ d ds, Dp K H x d ∧ Dp K H y (.tuple ds) ∧ SeqAt.shaped d = true ∧ SeqAt.shaped (.tuple ds) = true ∧ Q (.bl (!ds.any fun z => PyData.eqv z d)) H
theorem op_inT (hu : X.A.units + 65 < cLine) : OpR X (compareOp .In) (rInT X.K) := by
  intro pins s σ H x y v u Q I rx ry h
  obtain ⟨d, ds, hd, he, sd, se, q⟩ := h
  obtain ⟨as, r1⟩ := Dp.reads I d x v hd rx
  obtain ⟨bs, r2⟩ := Dp.reads I (.tuple ds) y u he ry
  exact SeqAt.in_tuple_reads r2 r1 (SeqAt.canLay_of_shaped se) (SeqAt.canLay_of_shaped sd) (room_in_shaped sd hu) ⟨.bl _, H, I, rfl, q⟩
theorem op_notInT (hu : X.A.units + 65 < cLine) : OpR X (compareOp .NotIn) (rNotInT X.K) := by
  intro pins s σ H x y v u Q I rx ry h
  obtain ⟨d, ds, hd, he, sd, se, q⟩ := h
  obtain ⟨as, r1⟩ := Dp.reads I d x v hd rx
  obtain ⟨bs, r2⟩ := Dp.reads I (.tuple ds) y u he ry
  exact SeqAt.notIn_tuple_reads r2 r1 (SeqAt.canLay_of_shaped se) (SeqAt.canLay_of_shaped sd) (room_in_shaped sd hu) ⟨.bl _, H, I, rfl, q⟩
abbrev rMem (K : PySem.W.Frag) : R2 := fun x y H Q => rInT K x y H Q ∨ rInD K x y H Q ∨ (∃ i j, x = .str i ∧ y = .str j ∧ Q (.bl (!(Builtin.Str.occurrences j i 0 j.length 1).isEmpty)) H)
abbrev rNotMem (K : PySem.W.Frag) : R2 := fun x y H Q => rNotInT K x y H Q ∨ rNotInD K x y H Q ∨ (∃ i j, x = .str i ∧ y = .str j ∧ Q (.bl (!(!(Builtin.Str.occurrences j i 0 j.length 1).isEmpty))) H)
theorem op_memD (hu : X.A.units + 65 < cLine) : OpR X (compareOp .In) (rMem X.K) := (op_inT hu).or ((op_inD hu).or op_in_str)
theorem op_notMemD (hu : X.A.units + 65 < cLine) : OpR X (compareOp .NotIn) (rNotMem X.K) := (op_notInT hu).or ((op_notInD hu).or op_notin_str)
theorem inD_cases {dx dy : D} {b : Bool} (h : inD dx dy = some b) : (∃ ys, dy = .tup ys ∧ okD dx = true ∧ okD (.tup ys) = true ∧ b = ((D.pys ys).any fun z => PyData.eqv z dx.py)) ∨ (∃ ys, dy = .lst ys ∧ okD dx = true ∧ okD (.lst ys) = true ∧ b = ((D.pys ys).any fun z => PyData.eqv z dx.py)) ∨
    ∃ x y, dx = .str x ∧ dy = .str y ∧ b = (!(Builtin.Str.occurrences y x 0 y.length 1).isEmpty) := by
  cases dy with
  | tup ys =>
    have h' : (if (okD dx && okD (.tup ys)) = true then some ((D.pys ys).any fun z => PyData.eqv z dx.py) else none) = some b := by cases dx <;> exact h
    split at h' <;> cases h'
    rename_i q
    rw [Bool.and_eq_true] at q
    exact .inl ⟨_, rfl, q.1, q.2, rfl⟩
  | lst ys =>
    have h' : (if (okD dx && okD (.lst ys)) = true then some ((D.pys ys).any fun z => PyData.eqv z dx.py) else none) = some b := by cases dx <;> exact h
    split at h' <;> cases h'
    rename_i q
    rw [Bool.and_eq_true] at q
    exact .inr (.inl ⟨_, rfl, q.1, q.2, rfl⟩)
  | str y =>
    cases dx with
    | str x => cases h; exact .inr (.inr ⟨_, _, rfl, rfl, rfl⟩)
    | _ => cases h
  | _ => cases dx <;> cases h
theorem ok_mem (hK : X.K = g.K) : OpOk g (rMem X.K) (fun x y => (cmpD .mem x y).map D.bool) := by
  intro F H n x y dx dy d Q s P rx ry e k
  simp only [cmpD, Option.map_eq_some_iff] at e
  obtain ⟨b, e, rfl⟩ := e
  rcases inD_cases e with ⟨ys, rfl, h1, h2, rfl⟩ | ⟨ys, rfl, h1, h2, rfl⟩ | ⟨i, j, rfl, rfl, rfl⟩
  · simp only [okD, Bool.and_eq_true] at h1 h2
    exact .inl ⟨dx.py, D.pys ys, by rw [hK]; exact (rx.rep s).dp h1.1, by rw [hK]; exact (ry.rep s).dp h2.1, h1.2, h2.2, OpOk.same s P k (.bl _)⟩
  · simp only [okD, Bool.and_eq_true] at h1 h2
    exact .inr (.inl ⟨dx.py, D.pys ys, by rw [hK]; exact (rx.rep s).dp h1.1, by rw [hK]; exact (ry.rep s).dp h2.1, h1.2, h2.2, OpOk.same s P k (.bl _)⟩)
  · exact .inr (.inr ⟨_, _, rx.strE, ry.strE, OpOk.same s P k (.bl _)⟩)
theorem ok_notMem (hK : X.K = g.K) : OpOk g (rNotMem X.K) (fun x y => (cmpD .notMem x y).map D.bool) := by
  intro F H n x y dx dy d Q s P rx ry e k
  simp only [cmpD, Option.map_map, Option.map_eq_some_iff] at e
  obtain ⟨b, e, rfl⟩ := e
  rcases inD_cases e with ⟨ys, rfl, h1, h2, rfl⟩ | ⟨ys, rfl, h1, h2, rfl⟩ | ⟨i, j, rfl, rfl, rfl⟩
  · simp only [okD, Bool.and_eq_true] at h1 h2
    exact .inl ⟨dx.py, D.pys ys, by rw [hK]; exact (rx.rep s).dp h1.1, by rw [hK]; exact (ry.rep s).dp h2.1, h1.2, h2.2, OpOk.same s P k (.bl _)⟩
  · simp only [okD, Bool.and_eq_true] at h1 h2
    exact .inr (.inl ⟨dx.py, D.pys ys, by rw [hK]; exact (rx.rep s).dp h1.1, by rw [hK]; exact (ry.rep s).dp h2.1, h1.2, h2.2, OpOk.same s P k (.bl _)⟩)
  · exact .inr (.inr ⟨_, _, rx.strE, ry.strE, OpOk.same s P k (.bl _)⟩)

/-- a comparison's rule -/
theorem cmp_rule (hK : X.K = g.K) (hu : X.A.units + 65 < cLine) (o : CmpO) : ∃ r, OpR X (compareOp o.py) r ∧ OpOk g r (fun x y => (cmpD o x y).map D.bool) := by
  cases o
  · exact ⟨_, op_eqD (by omega), ok_eq hK⟩
  · exact ⟨_, op_neD (by omega), ok_ne hK⟩
  · exact ⟨_, op_ltD (by omega), ok_lt hK⟩
  · exact ⟨_, op_le, ok_le⟩
  · exact ⟨_, op_gt, ok_gt⟩
  · exact ⟨_, op_ge, ok_ge⟩
  · exact ⟨_, op_isD, ok_is⟩
  · exact ⟨_, op_isNotD, ok_isNot⟩
  · exact ⟨_, op_memD hu, ok_mem hK⟩
  · exact ⟨_, op_notMemD hu, ok_notMem hK⟩
theorem bin_rule (hK : X.K = g.K) (o : BinO) : ∃ r, OpR X (binaryOp o.py) r ∧ OpOk g r (binD o) := by
  cases o
  · exact ⟨_, op_addD, ok_add hK⟩
  · exact ⟨_, op_sub, ok_sub⟩
  · exact ⟨_, op_mulD, ok_mul hK⟩
  · exact ⟨_, op_fdivN, ok_fdiv⟩
  · exact ⟨_, op_modN, ok_mod⟩
  · exact ⟨_, op_pow, ok_pow⟩

variable {a b : Expr} {pos : Pos} {fa fb : Rho → M D}
def evBin (o : BinO) (fa fb : Rho → M D) : Rho → M D := fun ρ => do let x ← fa ρ; let y ← fb ρ; M.opt (binD o x y)
def evCmp (o : CmpO) (fa fb : Rho → M D) : Rho → M D := fun ρ => do let x ← fa ρ; let y ← fb ρ; M.opt ((cmpD o x y).map D.bool)
theorem de_binO (hK : X.K = g.K) (o : BinO) (ha : PE X a (RdP g fa)) (hb : PE X b (RdP g fb)) : PE X (.BinOp a o.py b pos) (RdV g (evBin o fa fb)) := by
  obtain ⟨r, h1, h2⟩ := bin_rule (X := X) hK o
  exact de_bin h1 h2 ha hb
theorem de_cmp (hK : X.K = g.K) (hu : X.A.units + 65 < cLine) (o : CmpO) (ha : PE X a (RdP g fa)) (hb : PE X b (RdP g fb)) (hm : behindInMarks o.py b = false) : PE X (.Compare a [o.py] [b] pos) (RdV g (evCmp o fa fb)) := by
  obtain ⟨r, h1, h2⟩ := cmp_rule (X := X) hK hu o
  exact pe_wk (pe_cmpR h1 ha hb hm) fun σ H Q h => tOp_of h2 h
/-- a value's reading as a test, where the value is a truth value -/
theorem rdT_bool {f : Rho → M D} {σ : St} {H : Hp} {Q : Bool → Hp → Prop} (hf : ∀ ρ n d n', f ρ n = some (d, n') → ∃ b, d = .bool b) (h : RdT g (tst f) σ H Q) : RdV g f σ H (fun x H' => ∃ k, x = .bl k ∧ Q k H') := by
  obtain ⟨F0, H0, F, ρ, n, b, n', e, m, k⟩ := h
  obtain ⟨d, n1, e1, e2⟩ := M.bind_some e
  obtain ⟨c, rfl⟩ := hf _ _ _ _ e1
  obtain ⟨e3, e4⟩ := M.opt_ok e2
  simp only at e3 e4
  subst e4
  cases e3
  exact ⟨F0, H0, F, ρ, n, _, _, e1, m, fun v F' H' gr s P r => by
    cases r
    exact ⟨_, rfl, k F' H' gr s P⟩⟩
theorem evCmp_bool {o : CmpO} {ρ : Rho} {n n' : Nat} {d : D} (h : evCmp o fa fb ρ n = some (d, n')) : ∃ b, d = .bool b := by
  obtain ⟨x, n1, e1, e⟩ := M.bind_some h
  obtain ⟨y, n2, e2, e⟩ := M.bind_some e
  obtain ⟨e3, e4⟩ := M.opt_ok e
  simp only [Option.map_eq_some_iff] at e3
  obtain ⟨c, _, e⟩ := e3
  exact ⟨c, e.symm⟩
theorem dt_cmp (hK : X.K = g.K) (hu : X.A.units + 65 < cLine) (o : CmpO) (ha : PE X a (RdP g fa)) (hb : PE X b (RdP g fb)) (hm : behindInMarks o.py b = false) : PT X (.Compare a [o.py] [b] pos) (RdT g (tst (evCmp o fa fb))) := by
  obtain ⟨r, h1, h2⟩ := cmp_rule (X := X) hK hu o
  exact pt_wk (pt_cmpR h1 ha hb hm) fun σ H Q h => tOp_of h2 (rdT_bool (fun _ _ _ _ => evCmp_bool) h)

/-! ### a < b < c -/
def evChain (o o' : CmpO) (fa fb fc : Rho → M D) : Rho → M D := fun ρ => do
  let x ← fa ρ; let y ← fb ρ; let c ← M.opt (cmpD o x y)
  if c then (do let z ← fc ρ; M.opt ((cmpD o' y z).map D.bool)) else pure (.bool false)
variable {c : Expr} {fc : Rho → M D}
theorem evChain_bool {o o' : CmpO} {ρ : Rho} {n n' : Nat} {d : D} (h : evChain o o' fa fb fc ρ n = some (d, n')) : ∃ b, d = .bool b := by
  obtain ⟨x, n1, e1, e⟩ := M.bind_some h
  obtain ⟨y, n2, e2, e⟩ := M.bind_some e
  obtain ⟨k, n3, e3, e⟩ := M.bind_some e
  cases k with
  | false => cases e; exact ⟨_, rfl⟩
  | true =>
    obtain ⟨z, n4, e4, e⟩ := M.bind_some e
    obtain ⟨e5, e6⟩ := M.opt_ok e
    simp only [Option.map_eq_some_iff] at e5
    obtain ⟨c, _, e⟩ := e5
    exact ⟨c, e.symm⟩
theorem tChain_of {r r' : R2} {o o' : CmpO} {σ : St} {H : Hp} {Q : VK} (h1 : OpOk g r (fun x y => (cmpD o x y).map D.bool)) (h2 : OpOk g r' (fun x y => (cmpD o' x y).map D.bool)) (h : RdV g (evChain o o' fa fb fc) σ H Q) :
    tChain r r' (RdP g fa) (RdP g fb) (RdP g fc) σ H Q := by
  obtain ⟨F0, H0, F, ρ, n, d, n', e, m, k⟩ := h
  obtain ⟨x, n1, e1, e⟩ := M.bind_some e
  obtain ⟨y, n2, e2, e⟩ := M.bind_some e
  obtain ⟨c, n3, e3, e⟩ := M.bind_some e
  obtain ⟨e4, e5⟩ := M.opt_ok e3
  simp only at e4 e5
  subst e5
  refine ⟨F0, H0, F, ρ, n, x, n1, e1, m, fun v1 F1 H1 g1 s1 P1 r1 => ⟨F0, H0, F1, ρ, n1, y, _, e2, m.grow g1 s1 P1, fun v2 F2 H2 g2 s2 P2 r2 => ?_⟩⟩
  refine h1 F2 H2 _ v1 v2 x y (.bool c) _ s2 P2 (r1.grow g2) r2 (by simp only [e4, Option.map_some]) fun v F3 H3 g3 s3 P3 r3 => ?_
  cases r3
  refine ⟨c, rfl, ?_⟩
  cases c with
  | false =>
    cases e
    exact iteF (k _ F3 H3 (g1.trans (g2.trans g3)) s3 P3 (.bl _))
  | true =>
    obtain ⟨z, n4, e6, e⟩ := M.bind_some e
    obtain ⟨e7, e8⟩ := M.opt_ok e
    simp only at e7 e8
    subst e8
    refine iteT ⟨F0, H0, F3, ρ, _, z, _, e6, ((m.grow g1 s1 P1).grow g2 s2 P2).grow g3 s3 P3, fun v4 F4 H4 g4 s4 P4 r4 => ?_⟩
    exact h2 F4 H4 _ v2 v4 y z d Q s4 P4 ((r2.grow g3).grow g4) r4 e7 fun v F' H' g5 s5 P5 r5 => k v F' H' (g1.trans (g2.trans (g3.trans (g4.trans g5)))) s5 P5 r5
theorem de_chain (hK : X.K = g.K) (hu : X.A.units + 65 < cLine) (o o' : CmpO) (ha : PE X a (RdP g fa)) (hb : PE X b (RdP g fb)) (hc : PE X c (RdP g fc)) (hm : lastMarks [o.py, o'.py] [b, c] = false) :
    PE X (.Compare a [o.py, o'.py] [b, c] pos) (RdV g (evChain o o' fa fb fc)) := by
  obtain ⟨r, h1, h2⟩ := cmp_rule (X := X) hK hu o
  obtain ⟨r', h3, h4⟩ := cmp_rule (X := X) hK hu o'
  exact pe_wk (pe_chain h1 h3 ha hb hc hm) fun σ H Q h => tChain_of h2 h4 h
theorem dt_chain (hK : X.K = g.K) (hu : X.A.units + 65 < cLine) (o o' : CmpO) (ha : PE X a (RdP g fa)) (hb : PE X b (RdP g fb)) (hc : PE X c (RdP g fc)) (hm : lastMarks [o.py, o'.py] [b, c] = false) :
    PT X (.Compare a [o.py, o'.py] [b, c] pos) (RdT g (tst (evChain o o' fa fb fc))) := by
  obtain ⟨r, h1, h2⟩ := cmp_rule (X := X) hK hu o
  obtain ⟨r', h3, h4⟩ := cmp_rule (X := X) hK hu o'
  exact pt_wk (pt_chain h1 h3 ha hb hc hm) fun σ H Q h => tChain_of h2 h4 (rdT_bool (fun _ _ _ _ => evChain_bool) h)

/-! ### truth -/
theorem dt_truth (hK : X.K = g.K) (ha : PE X a (RdP g fa)) (he : ∀ whole, isTrue a X.env whole = (do let v ← whole; standAt a.pos; holding [v] (truthy v))) : PT X a (RdT g (tst fa)) := by
  refine pt_wk (pt_truth ha he) fun σ H Q ⟨F0, H0, F, ρ, n, b, n', e, m, k⟩ => ?_
  obtain ⟨d, n1, e1, e2⟩ := M.bind_some e
  obtain ⟨e3, e4⟩ := M.opt_ok e2
  simp only at e3 e4
  subst e4
  refine ⟨F0, H0, F, ρ, n, d, _, e1, m, fun v F' H' gr s P r => ⟨b, ?_, k F' H' gr s P⟩⟩
  cases d with
  | none => cases r.noneE; cases e3; rfl
  | bool c => cases r.boolE; cases e3; rfl
  | int i => cases r.intE; cases e3; rfl
  | str x =>
    cases r.strE
    simp only [truD] at e3
    split at e3 <;> cases e3
    rename_i h
    exact ⟨by rw [← sz]; exact h, rfl⟩
  | tup xs =>
    obtain ⟨p, vs, rfl, _, hp, ra⟩ := r.tupE s
    simp only [truD, Option.some.injEq] at e3
    subst e3
    have hl := ra.length
    refine .inr (.inl ⟨vs, by rw [hK]; exact hp, ?_⟩)
    cases vs <;> cases xs <;> simp at hl ⊢
  | lst xs =>
    obtain ⟨p, vs, rfl, hp, ra⟩ := r.lstE s
    simp only [truD, Option.some.injEq] at e3
    subst e3
    have hl := ra.length
    refine .inl ⟨vs, .of hp, ?_⟩
    cases vs <;> cases xs <;> simp at hl ⊢
  | pool => cases e3
  | scr _ => cases e3

/-! ### not, and, or, if -/
def notD : D → Option D
  | .bool b => some (.bool (!b))
  | _ => none
def evNot (fa : Rho → M D) : Rho → M D := fun ρ => do let x ← fa ρ; M.opt (notD x)
theorem evNot_some {ρ : Rho} {n n' : Nat} {d : D} (h : evNot fa ρ n = some (d, n')) : ∃ b, fa ρ n = some (.bool b, n') ∧ d = .bool (!b) := by
  obtain ⟨x, n1, e1, e⟩ := M.bind_some h
  obtain ⟨e3, e4⟩ := M.opt_ok e
  simp only at e3 e4
  subst e4
  cases x <;> simp only [notD, reduceCtorEq] at e3
  cases e3
  exact ⟨_, e1, rfl⟩
theorem de_not (ha : PE X a (RdV g fa)) : PE X (.UnaryOp .Not a pos) (RdV g (evNot fa)) := by
  refine pe_wk (pe_not ha) fun σ H Q ⟨F0, H0, F, ρ, n, d, n', e, m, k⟩ => ?_
  obtain ⟨b, e1, rfl⟩ := evNot_some e
  exact ⟨F0, H0, F, ρ, n, _, _, e1, m, fun v F' H' gr s P r => by
    cases r
    exact ⟨b, rfl, k _ F' H' gr s P (.bl _)⟩⟩
theorem dt_not (ha : PT X a (RdT g (tst fa))) : PT X (.UnaryOp .Not a pos) (RdT g (tst (evNot fa))) := by
  refine pt_wk (pt_not ha) fun σ H Q ⟨F0, H0, F, ρ, n, b, n', e, m, k⟩ => ?_
  obtain ⟨d, n1, e1, e2⟩ := M.bind_some e
  obtain ⟨c, e5, rfl⟩ := evNot_some e1
  obtain ⟨e3, e4⟩ := M.opt_ok e2
  simp only at e3 e4
  subst e4
  cases e3
  exact ⟨F0, H0, F, ρ, n, c, _, by rw [tst, M.bind_ap, e5]; rfl, m, fun F' H' gr s P => k F' H' gr s P⟩
def evAnd (fa fb : Rho → M D) : Rho → M D := fun ρ => do
  let x ← fa ρ
  match x with
  | .bool true => fb ρ
  | .bool false => pure (.bool false)
  | _ => M.fail
def evOr (fa fb : Rho → M D) : Rho → M D := fun ρ => do
  let x ← fa ρ
  match x with
  | .bool true => pure (.bool true)
  | .bool false => fb ρ
  | _ => M.fail
theorem evAnd_some {ρ : Rho} {n n' : Nat} {d : D} (h : evAnd fa fb ρ n = some (d, n')) : (∃ n1, fa ρ n = some (.bool true, n1) ∧ fb ρ n1 = some (d, n')) ∨ (fa ρ n = some (.bool false, n') ∧ d = .bool false) := by
  obtain ⟨x, n1, e1, e⟩ := M.bind_some h
  cases x with
  | bool c =>
    cases c with
    | true => exact .inl ⟨n1, e1, e⟩
    | false => cases e; exact .inr ⟨e1, rfl⟩
  | _ => cases e
theorem evOr_some {ρ : Rho} {n n' : Nat} {d : D} (h : evOr fa fb ρ n = some (d, n')) : (∃ n1, fa ρ n = some (.bool false, n1) ∧ fb ρ n1 = some (d, n')) ∨ (fa ρ n = some (.bool true, n') ∧ d = .bool true) := by
  obtain ⟨x, n1, e1, e⟩ := M.bind_some h
  cases x with
  | bool c =>
    cases c with
    | false => exact .inl ⟨n1, e1, e⟩
    | true => cases e; exact .inr ⟨e1, rfl⟩
  | _ => cases e
variable {rest : List Expr}
theorem de_and (ha : PE X a (RdV g fa)) (hb : PE X (.BoolOp .And (b :: rest) pos) (RdV g fb)) : PE X (.BoolOp .And (a :: b :: rest) pos) (RdV g (evAnd fa fb)) := by
  refine pe_wk (pe_and ha hb) fun σ H Q ⟨F0, H0, F, ρ, n, d, n', e, m, k⟩ => ?_
  rcases evAnd_some e with ⟨n1, e1, e2⟩ | ⟨e1, rfl⟩
  · refine ⟨F0, H0, F, ρ, n, _, _, e1, m, fun v F' H' gr s P r => ?_⟩
    cases r
    exact ⟨true, rfl, iteT ⟨F0, H0, F', ρ, n1, d, n', e2, m.grow gr s P, fun v F2 H2 g2 s2 P2 r2 => k v F2 H2 (gr.trans g2) s2 P2 r2⟩⟩
  · refine ⟨F0, H0, F, ρ, n, _, _, e1, m, fun v F' H' gr s P r => ?_⟩
    cases r
    exact ⟨false, rfl, iteF (k _ F' H' gr s P (.bl _))⟩
theorem de_or (ha : PE X a (RdV g fa)) (hb : PE X (.BoolOp .Or (b :: rest) pos) (RdV g fb)) : PE X (.BoolOp .Or (a :: b :: rest) pos) (RdV g (evOr fa fb)) := by
  refine pe_wk (pe_or ha hb) fun σ H Q ⟨F0, H0, F, ρ, n, d, n', e, m, k⟩ => ?_
  rcases evOr_some e with ⟨n1, e1, e2⟩ | ⟨e1, rfl⟩
  · refine ⟨F0, H0, F, ρ, n, _, _, e1, m, fun v F' H' gr s P r => ?_⟩
    cases r
    exact ⟨false, rfl, iteF ⟨F0, H0, F', ρ, n1, d, n', e2, m.grow gr s P, fun v F2 H2 g2 s2 P2 r2 => k v F2 H2 (gr.trans g2) s2 P2 r2⟩⟩
  · refine ⟨F0, H0, F, ρ, n, _, _, e1, m, fun v F' H' gr s P r => ?_⟩
    cases r
    exact ⟨true, rfl, iteT (k _ F' H' gr s P (.bl _))⟩
theorem tst_some {f : Rho → M D} {ρ : Rho} {n n' : Nat} {b : Bool} (h : tst f ρ n = some (b, n')) : ∃ d, f ρ n = some (d, n') ∧ truD d = some b := by
  obtain ⟨x, n1, e1, e⟩ := M.bind_some h
  obtain ⟨e3, e4⟩ := M.opt_ok e
  simp only at e3 e4
  subst e4
  exact ⟨x, e1, e3⟩
theorem tst_of {f : Rho → M D} {ρ : Rho} {n n' : Nat} {b : Bool} {d : D} (h : f ρ n = some (d, n')) (h2 : truD d = some b) : tst f ρ n = some (b, n') := by
  rw [tst, M.bind_ap, h]
  show M.opt (truD d) n' = _
  rw [h2]; rfl
theorem dw_and (ha : PT X a (RdT g (tst fa))) (hb : PW X (.BoolOp .And (b :: rest) pos) (RdT g (tst fb))) : PW X (.BoolOp .And (a :: b :: rest) pos) (RdT g (tst (evAnd fa fb))) := by
  refine pw_wk (pw_and ha hb) fun σ H Q ⟨F0, H0, F, ρ, n, c, n', e, m, k⟩ => ?_
  obtain ⟨d, e, e'⟩ := tst_some e
  rcases evAnd_some e with ⟨n1, e1, e2⟩ | ⟨e1, rfl⟩
  · exact ⟨F0, H0, F, ρ, n, true, n1, tst_of e1 rfl, m, fun F' H' gr s P => iteT ⟨F0, H0, F', ρ, n1, c, n', tst_of e2 e', m.grow gr s P, fun F2 H2 g2 s2 P2 => k F2 H2 (gr.trans g2) s2 P2⟩⟩
  · cases e'
    exact ⟨F0, H0, F, ρ, n, false, n', tst_of e1 rfl, m, fun F' H' gr s P => iteF (k F' H' gr s P)⟩
theorem dw_or (ha : PT X a (RdT g (tst fa))) (hb : PW X (.BoolOp .Or (b :: rest) pos) (RdT g (tst fb))) : PW X (.BoolOp .Or (a :: b :: rest) pos) (RdT g (tst (evOr fa fb))) := by
  refine pw_wk (pw_or ha hb) fun σ H Q ⟨F0, H0, F, ρ, n, c, n', e, m, k⟩ => ?_
  obtain ⟨d, e, e'⟩ := tst_some e
  rcases evOr_some e with ⟨n1, e1, e2⟩ | ⟨e1, rfl⟩
  · exact ⟨F0, H0, F, ρ, n, false, n1, tst_of e1 rfl, m, fun F' H' gr s P => iteF ⟨F0, H0, F', ρ, n1, c, n', tst_of e2 e', m.grow gr s P, fun F2 H2 g2 s2 P2 => k F2 H2 (gr.trans g2) s2 P2⟩⟩
  · cases e'
    exact ⟨F0, H0, F, ρ, n, true, n', tst_of e1 rfl, m, fun F' H' gr s P => iteT (k F' H' gr s P)⟩
def evIf (fc : Rho → M Bool) (fa fb : Rho → M D) : Rho → M D := fun ρ => do
  let x ← fc ρ
  if x then fa ρ else fb ρ
theorem de_if {ft : Rho → M Bool} (hc : PT X c (RdT g ft)) (ha : PE X a (RdV g fa)) (hb : PE X b (RdV g fb)) : PE X (.IfExp c a b pos) (RdV g (evIf ft fa fb)) := by
  refine pe_wk (pe_ifExp hc ha hb) fun σ H Q ⟨F0, H0, F, ρ, n, d, n', e, m, k⟩ => ?_
  obtain ⟨x, n1, e1, e⟩ := M.bind_some e
  refine ⟨F0, H0, F, ρ, n, x, n1, e1, m, fun F' H' gr s P => ?_⟩
  cases x with
  | true => exact iteT ⟨F0, H0, F', ρ, n1, d, n', e, m.grow gr s P, fun v F2 H2 g2 s2 P2 r2 => k v F2 H2 (gr.trans g2) s2 P2 r2⟩
  | false => exact iteF ⟨F0, H0, F', ρ, n1, d, n', e, m.grow gr s P, fun v F2 H2 g2 s2 P2 r2 => k v F2 H2 (gr.trans g2) s2 P2 r2⟩
def negD : D → Option D
  | .int i => some (.int (-i))
  | _ => none
def evNeg (fa : Rho → M D) : Rho → M D := fun ρ => do let x ← fa ρ; M.opt (negD x)
theorem de_neg (ha : PE X a (RdV g fa)) : PE X (.UnaryOp .USub a pos) (RdV g (evNeg fa)) := by
  refine pe_wk (pe_un un_neg ha) fun σ H Q ⟨F0, H0, F, ρ, n, d, n', e, m, k⟩ => ?_
  obtain ⟨x, n1, e1, e⟩ := M.bind_some e
  obtain ⟨e3, e4⟩ := M.opt_ok e
  simp only at e3 e4
  subst e4
  cases x <;> simp only [negD, reduceCtorEq] at e3
  cases e3
  exact ⟨F0, H0, F, ρ, n, _, _, e1, m, fun v F' H' gr s P r => by
    cases r
    exact ⟨_, rfl, k _ F' H' gr s P (.int _)⟩⟩

/-! ### names, constants -/
def getV (i : Nat) : Rho → M D := fun ρ n => match ρ[i]? with
  | some (.val d) => some (d, n)
  | _ => none
def getP (i : Nat) : Rho → M D := fun ρ n => match ρ[i]? with
  | some (.val d) => some (d, n)
  | some (.own d) => some (d, n)
  | _ => none
theorem de_var {i : Nat} {x : Str} (hN : X.N[i]? = some x) (hv : Vis X.env.scope x) (hd : (x == ("__debug__" : Str)) = false) (hcd : (x == ("__classdict__" : Str)) = false) : PE X (.Name x pos) (RdV g (getV i)) := by
  refine pe_wk (pe_var hN hv hd hcd) fun σ H Q ⟨F0, H0, F, ρ, n, d, n', e, m, k⟩ => ?_
  unfold getV at e
  split at e
  · rename_i d' hs
    cases e
    obtain ⟨v, e1, r⟩ := m.slot _ _ hs
    exact ⟨v, e1, k v F H Grow.refl m.sub m.pool r⟩
  · cases e
theorem dp_var {i : Nat} {x : Str} (hN : X.N[i]? = some x) (hv : Vis X.env.scope x) (hd : (x == ("__debug__" : Str)) = false) (hcd : (x == ("__classdict__" : Str)) = false) : PE X (.Name x pos) (RdP g (getP i)) := by
  refine pe_wk (pe_var hN hv hd hcd) fun σ H Q ⟨F0, H0, F, ρ, n, d, n', e, m, k⟩ => ?_
  unfold getP at e
  split at e
  · rename_i d' hs
    cases e
    obtain ⟨v, e1, r⟩ := m.slot _ _ hs
    exact ⟨v, e1, k v F H Grow.refl m.sub m.pool (.inl r)⟩
  · rename_i d' hs
    cases e
    obtain ⟨a, e1, o, hf, h0⟩ := m.slot _ _ hs
    exact ⟨_, e1, k _ F H Grow.refl m.sub m.pool (.inr ⟨a, rfl, o, fun hl => (H0_ne m.p0 h0 hl).2.2⟩)⟩
  · cases e
def cst (d : D) : Rho → M D := fun _ => pure d
theorem rdV_cst {σ : St} {H : Hp} {Q : VK} {d : D} {v : V} (r : ∀ F : Hp, Rep g F v d) (h : RdV g (cst d) σ H Q) : Q v H := by
  obtain ⟨F0, H0, F, ρ, n, d', n', e, m, k⟩ := h
  cases e
  exact k v F H Grow.refl m.sub m.pool (r F)
theorem de_int {i : Int} {j : Nat} : PE X (.Constant (.int i) j pos) (RdV g (cst (.int i))) := pe_wk pe_int fun σ H Q h => rdV_cst (fun _ => .int _) h
theorem de_bool {i : Bool} {j : Nat} : PE X (.Constant (.bool i) j pos) (RdV g (cst (.bool i))) := pe_wk pe_bl fun σ H Q h => rdV_cst (fun _ => .bl _) h
theorem de_none {j : Nat} : PE X (.Constant .none j pos) (RdV g (cst .none)) := pe_wk pe_non fun σ H Q h => rdV_cst (fun _ => .non) h
theorem de_str {i : Str} {j : Nat} : PE X (.Constant (.str i) j pos) (RdV g (cst (.str i))) := pe_wk pe_str fun σ H Q h => rdV_cst (fun _ => .str _) h
theorem de_glob {x : Str} {v : V} {u : Value} {d : D} (hg : Gl X x) (hm : X.mg x = some u) (r : RelV v u) (rd : ∀ F : Hp, Rep g F v d) (hd : (x == ("__debug__" : Str)) = false) : PE X (.Name x pos) (RdV g (cst d)) := pe_wk (pe_glob hg hm r hd) fun σ H Q h => rdV_cst rd h

/-! ### argument lists, displays -/
def evNil : Rho → M (List D) := fun _ => pure []
def evCons (fa : Rho → M D) (fr : Rho → M (List D)) : Rho → M (List D) := fun ρ => do let x ← fa ρ; let r ← fr ρ; pure (x :: r)
variable {es : List Expr} {fr : Rho → M (List D)}
theorem da_nil : PA X [] (RdA g evNil) := pa_wk pa_nil fun σ H Q ⟨F0, H0, F, ρ, n, ds, n', e, m, k⟩ => by
  cases e
  exact k [] F H Grow.refl m.sub m.pool .nil
theorem da_cons (ha : PE X a (RdV g fa)) (hr : PA X es (RdA g fr)) (hs : starEach (a :: es) X.env = (false, eval a X.env) :: starEach es X.env) : PA X (a :: es) (RdA g (evCons fa fr)) := by
  refine pa_wk (pa_cons ha hr hs) fun σ H Q ⟨F0, H0, F, ρ, n, ds, n', e, m, k⟩ => ?_
  obtain ⟨x, n1, e1, e⟩ := M.bind_some e
  obtain ⟨r, n2, e2, e⟩ := M.bind_some e
  cases e
  exact ⟨F0, H0, F, ρ, n, x, n1, e1, m, fun v F1 H1 g1 s1 P1 r1 => ⟨F0, H0, F1, ρ, n1, r, _, e2, m.grow g1 s1 P1, fun vs F2 H2 g2 s2 P2 r2 => k (v :: vs) F2 H2 (g1.trans g2) s2 P2 (.cons (r1.mono g2.f) r2)⟩⟩
theorem dap_nil : PA X [] (RdAP g evNil) := pa_wk pa_nil fun σ H Q ⟨F0, H0, F, ρ, n, ds, n', e, m, k⟩ => by
  cases e
  exact k [] F H Grow.refl m.sub m.pool .nil
theorem dap_cons (ha : PE X a (RdP g fa)) (hr : PA X es (RdAP g fr)) (hs : starEach (a :: es) X.env = (false, eval a X.env) :: starEach es X.env) : PA X (a :: es) (RdAP g (evCons fa fr)) := by
  refine pa_wk (pa_cons ha hr hs) fun σ H Q ⟨F0, H0, F, ρ, n, ds, n', e, m, k⟩ => ?_
  obtain ⟨x, n1, e1, e⟩ := M.bind_some e
  obtain ⟨r, n2, e2, e⟩ := M.bind_some e
  cases e
  exact ⟨F0, H0, F, ρ, n, x, n1, e1, m, fun v F1 H1 g1 s1 P1 r1 => ⟨F0, H0, F1, ρ, n1, r, _, e2, m.grow g1 s1 P1, fun vs F2 H2 g2 s2 P2 r2 => k (v :: vs) F2 H2 (g1.trans g2) s2 P2 (.cons (r1.grow g2) r2)⟩⟩
def evTup (fr : Rho → M (List D)) : Rho → M D := fun ρ => do let r ← fr ρ; if r.length ≤ 16777216 then pure (.tup r) else M.fail
def evLst (fr : Rho → M (List D)) : Rho → M D := fun ρ => do let r ← fr ρ; if r.length ≤ 16777216 then pure (.lst r) else M.fail
theorem de_tup {x1 : Nat} (h : PA X es (RdA g fr)) : PE X (.Tuple es x1 pos) (RdV g (evTup fr)) := by
  refine pe_wk (pe_tup h) fun σ H Q ⟨F0, H0, F, ρ, n, d, n', e, m, k⟩ => ?_
  obtain ⟨r, n1, e1, e⟩ := M.bind_some e
  split at e
  · rename_i hz
    cases e
    refine ⟨F0, H0, F, ρ, n, r, _, e1, m, fun vs F1 H1 g1 s1 P1 r1 => ⟨by rw [← sz, r1.length]; exact hz, fun p hp => ?_⟩⟩
    exact OpOk.tup s1 P1 (fun v F' H' g2 s2 P2 r2 => k v F' H' (g1.trans g2) s2 P2 r2) r1 hp
  · cases e
theorem df_lst (h : PA X es (RdA g fr)) : PE X (.List es pos) (RdF g (evLst fr)) := by
  refine pe_wk (pe_lst h) fun σ H Q ⟨F0, H0, F, ρ, n, d, n', e, m, k⟩ => ?_
  obtain ⟨r, n1, e1, e⟩ := M.bind_some e
  split at e
  · rename_i hz
    cases e
    refine ⟨F0, H0, F, ρ, n, r, _, e1, m, fun vs F1 H1 g1 s1 P1 r1 => ⟨by rw [← sz, r1.length]; exact hz, fun p hp => ?_⟩⟩
    exact k p F1 _ (g1.trans (Grow.new P1 hp)) (sub_new s1 P1 hp) (P1.upd hp) (g1.fresh hp) (sub_none s1 hp) ⟨vs, r, rfl, upd_same, r1⟩
  · cases e

/-! ### items, slices -/
def ixD : D → D → Option D
  | .tup xs, .int i => atI xs i
  | .lst xs, .int i => atI xs i
  | .scr ns, .int i => (atI ns i).map D.int
  | .str x, .int i => if x.length ≤ 16777216 then (atI x.cps.toList i).map fun c => .str ⟨#[c]⟩ else none
  | _, _ => none
theorem RepAll.at {F : Hp} {vs : List V} {ds : List D} {i : Int} {d : D} (h : RepAll g F vs ds) (e : atI ds i = some d) : ∃ v, atI vs i = some v ∧ Rep g F v d := by
  have hl := h.length
  unfold atI at e ⊢
  rw [hl]
  cases q : ixN ds.length i with
  | none => rw [q] at e; cases e
  | some j =>
    rw [q] at e
    exact h.get e
theorem ok_ix (hK : X.K = g.K) : OpOk g (rIx X.K) ixD := by
  intro F H n x y dx dy d Q s P rx ry e k
  cases dx <;> cases dy <;> simp only [ixD, reduceCtorEq] at e
  · split at e
    · rename_i h
      simp only [Option.map_eq_some_iff] at e
      obtain ⟨c, e, rfl⟩ := e
      exact .inr (.inr ⟨_, _, c, rx.strE, ry.intE, by rw [← sz]; exact h, e, OpOk.same s P k (.str _)⟩)
    · cases e
  · obtain ⟨a, vs, rfl, _, ha, ra⟩ := rx.tupE s
    obtain ⟨v, e1, r1⟩ := ra.at e
    exact .inr (.inl ⟨a, vs, _, v, rfl, ry.intE, by rw [hK]; exact ha, e1, OpOk.same s P k r1⟩)
  · obtain ⟨a, vs, rfl, ha, ra⟩ := rx.lstE s
    obtain ⟨v, e1, r1⟩ := ra.at e
    exact .inl ⟨a, vs, _, v, rfl, ry.intE, .of ha, e1, OpOk.same s P k r1⟩
  · rename_i ns i
    simp only [Option.map_eq_some_iff] at e
    obtain ⟨z, e, rfl⟩ := e
    obtain ⟨a, rfl, ha⟩ := rx.scrE s
    refine .inl ⟨a, _, _, .int z, rfl, ry.intE, by rw [hK]; exact ha, ?_, OpOk.same s P k (.int _)⟩
    unfold atI at e ⊢
    rw [List.length_map]
    cases q : ixN ns.length i with
    | none => rw [q] at e; cases e
    | some j =>
      rw [q] at e
      have e : ns[j]? = some z := e
      show (List.map V.int ns)[j]? = _
      rw [List.getElem?_map, e]; rfl
def evIx (fa fb : Rho → M D) : Rho → M D := fun ρ => do let x ← fa ρ; let y ← fb ρ; M.opt (ixD x y)
theorem de_ix (hK : X.K = g.K) (ha : PE X a (RdP g fa)) (hb : PE X b (RdP g fb)) (hs : PlainIx b) : PE X (.Subscript a b pos) (RdV g (evIx fa fb)) := pe_wk (pe_ix ix_seq ha hb hs) fun σ H Q h => tOp_of (ok_ix hK) h
def cutD (xs : List D) (lo hi : Option Int) : List D := (xs.drop (HT.sIx xs.length 0 lo)).take (HT.sIx xs.length xs.length hi - HT.sIx xs.length 0 lo)
def slD : D → Option Int → Option Int → Option D
  | .tup xs, lo, hi => some (.tup (cutD xs lo hi))
  | .lst xs, lo, hi => some (.lst (cutD xs lo hi))
  | _, _, _ => none
def partD : D → Option (Option Int)
  | .int i => some (some i)
  | _ => none
/-- a slice's part -/
def RdO (g : Gh) (f : Rho → M (Option Int)) : TO := fun σ H Q => ∃ F0 H0 F ρ n d n', f ρ n = some (d, n') ∧ Mdl g F0 H0 F ρ n σ H ∧
  ∀ F' H', Grow g F H F' H' → Same F' (vis g H') → PoolAt g n' H' → Q d H'
def evNoPart : Rho → M (Option Int) := fun _ => pure none
def evPart (fa : Rho → M D) : Rho → M (Option Int) := fun ρ => do let x ← fa ρ; M.opt (partD x)
theorem po_wk {e : Option Expr} {t t' : TO} (h : PO X e t) (w : ∀ σ H Q, t' σ H Q → t σ H Q) : PO X e t' := ⟨fun pins s σ H Q I hw => h.run pins s σ H Q I (w σ H Q hw)⟩
theorem do_none : PO X none (RdO g evNoPart) := po_wk po_none fun σ H Q ⟨F0, H0, F, ρ, n, d, n', e, m, k⟩ => by
  cases e
  exact k F H Grow.refl m.sub m.pool
theorem do_some (ha : PE X a (RdP g fa)) : PO X (some a) (RdO g (evPart fa)) := by
  refine po_wk (po_some ha) fun σ H Q ⟨F0, H0, F, ρ, n, d, n', e, m, k⟩ => ?_
  obtain ⟨x, n1, e1, e⟩ := M.bind_some e
  obtain ⟨e3, e4⟩ := M.opt_ok e
  simp only at e3 e4
  subst e4
  refine ⟨F0, H0, F, ρ, n, x, _, e1, m, fun v F' H' gr s P r => ?_⟩
  cases x <;> simp only [partD, reduceCtorEq] at e3
  cases e3
  exact ⟨_, r.intE, k F' H' gr s P⟩
theorem RepAll.cut {F : Hp} {vs : List V} {ds : List D} (h : RepAll g F vs ds) (lo hi : Option Int) : RepAll g F (cutV vs lo hi) (cutD ds lo hi) := by
  unfold cutV cutD
  rw [h.length]
  exact (h.drop _).take _
theorem cutD_whole {xs : List D} {lo hi : Option Int} (h : HT.sIx xs.length 0 lo = 0 ∧ HT.sIx xs.length xs.length hi = xs.length) : cutD xs lo hi = xs := by
  unfold cutD
  rw [h.1, h.2]
  simp
def evSl (fa : Rho → M D) (fl fh : Rho → M (Option Int)) : Rho → M D := fun ρ => do let x ← fa ρ; let l ← fl ρ; let h ← fh ρ; M.opt (slD x l h)
theorem de_sl (hK : X.K = g.K) {lo hi : Option Expr} {p2 : Pos} {fl fh : Rho → M (Option Int)} (ha : PE X a (RdP g fa)) (hl : PO X lo (RdO g fl)) (hh : PO X hi (RdO g fh)) : PE X (.Subscript a (.Slice lo hi none p2) pos) (RdV g (evSl fa fl fh)) := by
  refine pe_wk (pe_slice (sl_tupA.or sl_list) ha hl hh) fun σ H Q ⟨F0, H0, F, ρ, n, d, n', e, m, k⟩ => ?_
  obtain ⟨x, n1, e1, e⟩ := M.bind_some e
  obtain ⟨l, n2, e2, e⟩ := M.bind_some e
  obtain ⟨h, n3, e3, e⟩ := M.bind_some e
  obtain ⟨e4, e5⟩ := M.opt_ok e
  simp only at e4 e5
  subst e5
  refine ⟨F0, H0, F, ρ, n, x, n1, e1, m, fun v1 F1 H1 g1 s1 P1 r1 => ⟨F0, H0, F1, ρ, n1, l, n2, e2, m.grow g1 s1 P1, fun F2 H2 g2 s2 P2 => ⟨F0, H0, F2, ρ, n2, h, _, e3, (m.grow g1 s1 P1).grow g2 s2 P2, fun F3 H3 g3 s3 P3 => ?_⟩⟩⟩
  have r := (r1.grow g2).grow g3
  have k' := fun v F' H' (g4 : Grow g F3 H3 F' H') s4 P4 r4 => k v F' H' (g1.trans (g2.trans (g3.trans g4))) s4 P4 r4
  cases x <;> simp only [slD, reduceCtorEq] at e4
  · cases e4
    obtain ⟨a, vs, rfl, hf, ha, ra⟩ := r.tupE s3
    have hl := ra.length
    refine .inl ⟨a, vs, rfl, by rw [hK]; exact ha, fun hw => ?_, fun _ p hp => OpOk.tup s3 P3 k' (ra.cut _ _) hp⟩
    rw [hl] at hw
    rw [cutD_whole hw] at k'
    exact OpOk.same s3 P3 k' (.tup hf ra)
  · cases e4
    obtain ⟨a, vs, rfl, ha, ra⟩ := r.lstE s3
    exact .inr ⟨a, vs, rfl, .of ha, fun p hp => OpOk.lst s3 P3 k' (ra.cut _ _) hp⟩
end
end Ev

set_option Elab.async false
set_option linter.all false
set_option autoImplicit false
set_option maxRecDepth 100000
/-! Ev3: calls of built-ins and of own defs, isinstance, sorted. -/
namespace Ev
open PySem PySem.Spec PyProof.Rows L2

def COk (g : Gh) (r : List V → Hp → VK → Prop) (op : List D → Option D) : Prop := ∀ (F H : Hp) (n : Nat) (vs : List V) (ds : List D) (d : D) (Q : VK), Same F (vis g H) → PoolAt g n H → PRepAll g F H vs ds → op ds = some d →
  (∀ v F' H', Grow g F H F' H' → Same F' (vis g H') → PoolAt g n H' → Rep g F' v d → Q v H') → r vs H Q
/-- as a new open list -/
def COkF (g : Gh) (r : List V → Hp → VK → Prop) (op : List D → Option (List D)) : Prop := ∀ (F H : Hp) (n : Nat) (vs : List V) (ds : List D) (d : List D) (Q : VK), Same F (vis g H) → PoolAt g n H → PRepAll g F H vs ds → op ds = some d →
  (∀ a ws H', Grow g F H F H' → Same F (vis g H') → PoolAt g n H' → H a = Option.none → H' a = some (.lst ws) → RepAll g F ws d → Q (.ref a) H') → r vs H Q
theorem PRepAll.one {g : Gh} {F H : Hp} {vs : List V} {d : D} (h : PRepAll g F H vs [d]) : ∃ v, vs = [v] ∧ PRep g F H v d := by
  cases h with
  | cons r t => cases t; exact ⟨_, rfl, r⟩
theorem PRepAll.two {g : Gh} {F H : Hp} {vs : List V} {d e : D} (h : PRepAll g F H vs [d, e]) : ∃ v w, vs = [v, w] ∧ PRep g F H v d ∧ PRep g F H w e := by
  cases h with
  | cons r t => obtain ⟨w, rfl, r2⟩ := t.one; exact ⟨_, _, rfl, r, r2⟩

def lenD : List D → Option D
  | [.tup xs] => some (.int xs.length)
  | [.lst xs] => some (.int xs.length)
  | [.scr ns] => some (.int ns.length)
  | [.str x] => if x.length ≤ 16777216 then some (.int x.length) else none
  | _ => none
def boolsD : List D → Option (List Bool)
  | [] => some []
  | .bool i :: r => (boolsD r).map (i :: ·)
  | _ :: _ => none
theorem boolsD_map {xs : List D} {ns : List Bool} (h : boolsD xs = some ns) : xs = ns.map D.bool := by
  induction xs generalizing ns with
  | nil => cases h; rfl
  | cons x xs ih =>
    cases x with
    | bool i =>
      simp only [boolsD, Option.map_eq_some_iff] at h
      obtain ⟨ms, h1, rfl⟩ := h
      rw [ih h1]; rfl
    | _ => cases h
@[simp] theorem boolsD_bools (ns : List Bool) : boolsD (ns.map D.bool) = some ns := by
  induction ns with
  | nil => rfl
  | cons n ns ih => simp [boolsD, ih]
theorem repAll_bools {g : Gh} {H : Hp} : ∀ {ns : List Bool} {vs : List V}, RepAll g H vs (ns.map D.bool) → vs = ns.map V.bl
  | [], _, h => by cases h; rfl
  | n :: ns, _, h => by
    cases h with
    | cons h r => cases h; rw [repAll_bools r]; rfl
def allD : List D → Option D
  | [.lst xs] => (boolsD xs).map fun bs => .bool (bs.all id)
  | _ => none
def anyD : List D → Option D
  | [.lst xs] => (boolsD xs).map fun bs => .bool (bs.any id)
  | _ => none
def sumD : List D → Option D
  | [.lst xs] => (intsD xs).map fun ns => .int ns.sum
  | _ => none
/-- the greatest, the least of some ints -/
def maxI : List Int → Int
  | [] => 0
  | [a] => a
  | a :: r => max a (maxI r)
def minI : List Int → Int
  | [] => 0
  | [a] => a
  | a :: r => min a (minI r)
theorem maxI_spec : ∀ (ns : List Int) (m : Int), m ∈ ns → (∀ y ∈ ns, y ≤ m) → maxI ns = m
  | [], m, h, _ => by simp at h
  | [a], m, h, _ => by simp at h; rw [h]; rfl
  | a :: b :: r, m, h, hl => by
    show max a (maxI (b :: r)) = m
    by_cases hm : m ∈ b :: r
    · have := maxI_spec (b :: r) m hm fun y hy => hl y (List.mem_cons_of_mem _ hy)
      rw [this]
      have := hl a List.mem_cons_self
      omega
    · have e : m = a := by
        rcases List.mem_cons.mp h with e | e
        · exact e
        · exact absurd e hm
      subst e
      have h2 : ∀ (l : List Int), l ≠ [] → (∀ y ∈ l, y ≤ m) → maxI l ≤ m := by
        intro l
        induction l with
        | nil => intro z; exact absurd rfl z
        | cons c l ih =>
          intro _ hy
          cases l with
          | nil => exact hy c List.mem_cons_self
          | cons c' l' =>
            show max c (maxI (c' :: l')) ≤ m
            have a1 := hy c List.mem_cons_self
            have a2 := ih (by simp) fun y h => hy y (List.mem_cons_of_mem _ h)
            omega
      have := h2 (b :: r) (by simp) fun y hy => hl y (List.mem_cons_of_mem _ hy)
      omega
theorem minI_spec : ∀ (ns : List Int) (m : Int), m ∈ ns → (∀ y ∈ ns, m ≤ y) → minI ns = m
  | [], m, h, _ => by simp at h
  | [a], m, h, _ => by simp at h; rw [h]; rfl
  | a :: b :: r, m, h, hl => by
    show min a (minI (b :: r)) = m
    by_cases hm : m ∈ b :: r
    · have := minI_spec (b :: r) m hm fun y hy => hl y (List.mem_cons_of_mem _ hy)
      rw [this]
      have := hl a List.mem_cons_self
      omega
    · have e : m = a := by
        rcases List.mem_cons.mp h with e | e
        · exact e
        · exact absurd e hm
      subst e
      have h2 : ∀ (l : List Int), l ≠ [] → (∀ y ∈ l, m ≤ y) → m ≤ minI l := by
        intro l
        induction l with
        | nil => intro z; exact absurd rfl z
        | cons c l ih =>
          intro _ hy
          cases l with
          | nil => exact hy c List.mem_cons_self
          | cons c' l' =>
            show m ≤ min c (minI (c' :: l'))
            have a1 := hy c List.mem_cons_self
            have a2 := ih (by simp) fun y h => hy y (List.mem_cons_of_mem _ h)
            omega
      have := h2 (b :: r) (by simp) fun y hy => hl y (List.mem_cons_of_mem _ hy)
      omega
def maxD : List D → Option D
  | [.int i, .int j] => some (.int (if j > i then j else i))
  | [.lst xs] => match intsD xs with
    | some (n :: ns) => some (.int (maxI (n :: ns)))
    | _ => none
  | _ => none
def minD : List D → Option D
  | [.int i, .int j] => some (.int (if j < i then j else i))
  | [.lst xs] => match intsD xs with
    | some (n :: ns) => some (.int (minI (n :: ns)))
    | _ => none
  | _ => none
def intD : List D → Option D
  | [.int i] => some (.int i)
  | [.bool k] => some (.int (if k then 1 else 0))
  | _ => none
def strD : List D → Option D
  | [.int i] => if i.natAbs.log2 < 1920 then some (.str (toString i)) else none
  | _ => none
def tupleD : List D → Option D
  | [.tup xs] => some (.tup xs)
  | [.lst xs] => some (.tup xs)
  | _ => none
def listD : List D → Option (List D)
  | [.tup xs] => some xs
  | [.lst xs] => some xs
  | _ => none
/-- all alike, all nonempty tuples or none a tuple or None -/
def alikeAllB : List PyData → Bool := fun ds => ds.all fun d => ds.all fun d' => PySem.W.alike d d'
def tupB : PyData → Bool
  | .tuple (_ :: _) => true
  | _ => false
def othB : PyData → Bool
  | .tuple _ => false
  | .none => false
  | _ => true
def sortable (ds : List PyData) : Bool := ds.all tupB || ds.all othB
def leD' (a b : D) : Bool := PySem.W.dataLe false D.py a b
def sortD (xs : List D) : List D := xs.mergeSort leD'
def sortedD : List D → Option (List D)
  | [.lst xs] => if xs.all okD && alikeAllB (xs.map D.py) && sortable (xs.map D.py) && decide (xs.length ≤ 16777216) then some (sortD xs) else none
  | [.tup xs] => none
  | _ => none

section
variable {X : Cx} {g : Gh} {K : PySem.W.Frag}
theorem okc_len (hK : X.K = g.K) : COk g (fun xs H Q => ∃ x n, xs = [x] ∧ LenV X.K x H n ∧ Q (.int n) H) lenD := by
  intro F H n vs ds d Q s P rs e k
  unfold lenD at e
  split at e
  · obtain ⟨v, rfl, r⟩ := rs.one
    cases e
    obtain ⟨a, ws, rfl, _, ha, ra⟩ := r.tupE s
    refine ⟨_, ws.length, rfl, .inr ⟨ws, by rw [hK]; exact ha, rfl⟩, ?_⟩
    rw [ra.length]
    exact OpOk.same s P k (.int _)
  · obtain ⟨v, rfl, r⟩ := rs.one
    cases e
    obtain ⟨a, ws, rfl, ha, ra⟩ := r.lstE s
    refine ⟨_, ws.length, rfl, .inl ⟨ws, .of ha, rfl⟩, ?_⟩
    rw [ra.length]
    exact OpOk.same s P k (.int _)
  · obtain ⟨v, rfl, r⟩ := rs.one
    cases e
    obtain ⟨a, rfl, ha⟩ := r.scrE s
    refine ⟨_, _, rfl, .inl ⟨_, by rw [hK]; exact ha, rfl⟩, ?_⟩
    rw [List.length_map]
    exact OpOk.same s P k (.int _)
  · obtain ⟨v, rfl, r⟩ := rs.one
    split at e <;> cases e
    rename_i h
    cases r.strE
    exact ⟨_, _, rfl, ⟨by rw [← sz]; exact h, rfl⟩, OpOk.same s P k (.int _)⟩
  · cases e
theorem okc_all : COk g (rAll K) allD := by
  intro F H n vs ds d Q s P rs e k
  unfold allD at e
  split at e
  · obtain ⟨v, rfl, r⟩ := rs.one
    simp only [Option.map_eq_some_iff] at e
    obtain ⟨bs, e, rfl⟩ := e
    obtain ⟨a, ws, rfl, ha, ra⟩ := r.lstE s
    rw [boolsD_map e] at ra
    rw [repAll_bools ra] at ha
    exact ⟨a, bs, rfl, .of ha, OpOk.same s P k (.bl _)⟩
  · cases e
theorem okc_any : COk g (rAny K) anyD := by
  intro F H n vs ds d Q s P rs e k
  unfold anyD at e
  split at e
  · obtain ⟨v, rfl, r⟩ := rs.one
    simp only [Option.map_eq_some_iff] at e
    obtain ⟨bs, e, rfl⟩ := e
    obtain ⟨a, ws, rfl, ha, ra⟩ := r.lstE s
    rw [boolsD_map e] at ra
    rw [repAll_bools ra] at ha
    exact ⟨a, bs, rfl, .of ha, OpOk.same s P k (.bl _)⟩
  · cases e
theorem okc_sum : COk g (rSum K) sumD := by
  intro F H n vs ds d Q s P rs e k
  unfold sumD at e
  split at e
  · obtain ⟨v, rfl, r⟩ := rs.one
    simp only [Option.map_eq_some_iff] at e
    obtain ⟨bs, e, rfl⟩ := e
    obtain ⟨a, ws, rfl, ha, ra⟩ := r.lstE s
    rw [intsD_map e] at ra
    rw [repAll_ints ra] at ha
    exact ⟨a, bs, rfl, .of ha, OpOk.same s P k (.int _)⟩
  · cases e
theorem okc_max : COk g (fun vs H Q => (∃ i j, vs = [V.int i, V.int j] ∧ Q (.int (if j > i then j else i)) H) ∨ rMax K vs H Q) maxD := by
  intro F H n vs ds d Q s P rs e k
  unfold maxD at e
  split at e
  · obtain ⟨v, w, rfl, r1, r2⟩ := rs.two
    cases e
    cases r1.intE
    cases r2.intE
    exact .inl ⟨_, _, rfl, OpOk.same s P k (.int _)⟩
  · obtain ⟨v, rfl, r⟩ := rs.one
    split at e
    · rename_i n0 ns h
      cases e
      obtain ⟨a, ws, rfl, ha, ra⟩ := r.lstE s
      rw [intsD_map h] at ra
      rw [repAll_ints ra] at ha
      refine .inr ⟨a, _, rfl, .of ha, by simp, fun m hm hl => ?_⟩
      rw [maxI_spec _ m hm hl] at k
      exact OpOk.same s P k (.int _)
    · cases e
  · cases e
theorem okc_min : COk g (fun vs H Q => (∃ i j, vs = [V.int i, V.int j] ∧ Q (.int (if j < i then j else i)) H) ∨ rMin K vs H Q) minD := by
  intro F H n vs ds d Q s P rs e k
  unfold minD at e
  split at e
  · obtain ⟨v, w, rfl, r1, r2⟩ := rs.two
    cases e
    cases r1.intE
    cases r2.intE
    exact .inl ⟨_, _, rfl, OpOk.same s P k (.int _)⟩
  · obtain ⟨v, rfl, r⟩ := rs.one
    split at e
    · rename_i n0 ns h
      cases e
      obtain ⟨a, ws, rfl, ha, ra⟩ := r.lstE s
      rw [intsD_map h] at ra
      rw [repAll_ints ra] at ha
      refine .inr ⟨a, _, rfl, .of ha, by simp, fun m hm hl => ?_⟩
      rw [minI_spec _ m hm hl] at k
      exact OpOk.same s P k (.int _)
    · cases e
  · cases e
theorem okc_int : COk g (fun xs H Q => (∃ i, xs = [V.int i] ∧ Q (.int i) H) ∨ ∃ k, xs = [.bl k] ∧ Q (.int (if k then 1 else 0)) H) intD := by
  intro F H n vs ds d Q s P rs e k
  unfold intD at e
  split at e
  · obtain ⟨v, rfl, r⟩ := rs.one
    cases e
    cases r.intE
    exact .inl ⟨_, rfl, OpOk.same s P k (.int _)⟩
  · obtain ⟨v, rfl, r⟩ := rs.one
    cases e
    cases r.boolE
    exact .inr ⟨_, rfl, OpOk.same s P k (.int _)⟩
  · cases e
theorem okc_str : COk g (fun xs H Q => ∃ i, xs = [V.int i] ∧ i.natAbs.log2 < 1920 ∧ Q (.str (toString i)) H) strD := by
  intro F H n vs ds d Q s P rs e k
  unfold strD at e
  split at e
  · obtain ⟨v, rfl, r⟩ := rs.one
    split at e <;> cases e
    rename_i h
    cases r.intE
    exact ⟨_, rfl, h, OpOk.same s P k (.str _)⟩
  · cases e
theorem okc_tuple (hK : X.K = g.K) : COk g (fun xs H Q => ∃ p ys, xs = [.ref p] ∧ ((SqL X.K H p ys ∧ ∀ l, H l = none → Q (.ref l) (upd H l (.tup ys))) ∨ (SqT X.K H p ys ∧ Q (.ref p) H))) tupleD := by
  intro F H n vs ds d Q s P rs e k
  unfold tupleD at e
  split at e
  · obtain ⟨v, rfl, r⟩ := rs.one
    cases e
    obtain ⟨a, ws, rfl, hf, ha, ra⟩ := r.tupE s
    exact ⟨a, ws, rfl, .inr ⟨by rw [hK]; exact ha, OpOk.same s P k (.tup hf ra)⟩⟩
  · obtain ⟨v, rfl, r⟩ := rs.one
    cases e
    obtain ⟨a, ws, rfl, ha, ra⟩ := r.lstE s
    exact ⟨a, ws, rfl, .inl ⟨.of ha, fun p hp => OpOk.tup s P k ra hp⟩⟩
  · cases e
theorem okc_list (hK : X.K = g.K) : COkF g (fun xs H Q => ∃ p ys, xs = [.ref p] ∧ (SqL X.K H p ys ∨ SqT X.K H p ys) ∧ ∀ l, H l = none → Q (.ref l) (upd H l (.lst ys))) listD := by
  intro F H n vs ds d Q s P rs e k
  unfold listD at e
  split at e
  · obtain ⟨v, rfl, r⟩ := rs.one
    cases e
    obtain ⟨a, ws, rfl, hf, ha, ra⟩ := r.tupE s
    exact ⟨a, ws, rfl, .inr (by rw [hK]; exact ha), fun p hp => k p ws _ (Grow.new P hp) (sub_new s P hp) (P.upd hp) hp upd_same ra⟩
  · obtain ⟨v, rfl, r⟩ := rs.one
    cases e
    obtain ⟨a, ws, rfl, ha, ra⟩ := r.lstE s
    exact ⟨a, ws, rfl, .inl (.of ha), fun p hp => k p ws _ (Grow.new P hp) (sub_new s P hp) (P.upd hp) hp upd_same ra⟩
  · cases e

/-! ### sorted -/
/-- the values that stand for data: what sorted's rule hands on -/
def rSortD (g : Gh) : List V → Hp → VK → Prop := fun vs H Q => ∃ (a : Addr) (ws : List V) (ds : List D), vs = [V.ref a] ∧ H a = some (.lst ws) ∧ RepAll g H ws ds ∧ ds.all okD = true ∧ alikeAllB (ds.map D.py) = true ∧ sortable (ds.map D.py) = true ∧ ds.length ≤ sizeLine ∧
  ∀ us p, H p = Option.none → (∀ F, RepAll g F ws ds → RepAll g F us (sortD ds)) → Q (.ref p) (upd H p (.lst us))
theorem each_of {g : Gh} {F : Hp} : ∀ {ws : List V} {its : List Value} {ds : List D}, Vals ws its → RepAll g F ws ds → PySem.W.EachIs (fun u d => ∃ v, RelV v u ∧ Rep g F v d) its ds
  | _, _, _, .nil, .nil => .nil
  | _, _, _, .cons r t, .cons r2 t2 => .cons ⟨_, r, r2⟩ (each_of t t2)
theorem each_vals {R : V → D → Prop} : ∀ {us : List Value} {ds : List D}, PySem.W.EachIs (fun u d => ∃ v, RelV v u ∧ R v d) us ds → ∃ vs, Vals vs us ∧ PySem.W.EachIs R vs ds
  | _, _, .nil => ⟨[], .nil, .nil⟩
  | _, _, .cons ⟨v, h1, h2⟩ t => by
    obtain ⟨vs, h3, h4⟩ := each_vals t
    exact ⟨v :: vs, .cons h1 h3, .cons h2 h4⟩
theorem each_repAll {g : Gh} {F : Hp} : ∀ {vs : List V} {ds : List D}, PySem.W.EachIs (Rep g F) vs ds → RepAll g F vs ds
  | _, _, .nil => .nil
  | _, _, .cons h t => .cons h (each_repAll t)
theorem okD_depth {d : D} (h : okD d = true) : d.data = true ∧ d.py.canLay0 = true ∧ d.py.depth ≤ 64 := by
  simp only [okD, Bool.and_eq_true] at h
  have h2 : (d.py.canLay0 && decide (d.py.depth ≤ 64)) = true := h.2
  rw [Bool.and_eq_true] at h2
  exact ⟨h.1, h2.1, of_decide_eq_true h2.2⟩
theorem each_reads {pins : List (Addr × Obj)} {σ : St} {H : Hp} {s : Shared} (hK : X.K = g.K) (I : Inv X pins σ H s) : ∀ {ws : List V} {its : List Value} {ds : List D}, Vals ws its → RepAll g H ws ds → ds.all okD = true →
    PySem.W.EachIs (fun u d => ∃ as, Reads s.heap u (D.py d) as) its ds
  | _, _, _, .nil, .nil, _ => .nil
  | _, _, _, .cons r t, .cons r2 t2, h => by
    rw [List.all_cons, Bool.and_eq_true] at h
    refine .cons ?_ (each_reads hK I t t2 h.2)
    exact Dp.reads I _ _ _ (by rw [hK]; exact r2.dp (okD_depth h.1).1) r
theorem each_pair {g : Gh} {ws : List V} {ds : List D} {F0 : Hp} {R : V → D → Prop} : ∀ {its : List Value} {ws : List V} {ds : List D}, Vals ws its → RepAll g F0 ws ds → (∀ (i : Nat) v d, ws[i]? = some v → ds[i]? = some d → R v d) → PySem.W.EachIs (fun u d => ∃ v, RelV v u ∧ R v d) its ds
  | _, _, _, .nil, .nil, _ => .nil
  | _, _, _, .cons r t, .cons r2 t2, h => .cons ⟨_, r, h 0 _ _ rfl rfl⟩ (each_pair (ws := ws) (ds := ds) t t2 fun i v d h1 h2 => h (i + 1) v d (by simpa using h1) (by simpa using h2))
theorem RepAll.getD {g : Gh} {F : Hp} : ∀ {vs : List V} {ds : List D} {i : Nat} {d : D} {v : V}, RepAll g F vs ds → ds[i]? = some d → vs[i]? = some v → Rep g F v d := fun h h1 h2 => by
  obtain ⟨v', h3, h4⟩ := h.get h1
  rw [h2] at h3; cases h3; exact h4
theorem cr_sortD (hK : X.K = g.K) (hu : X.A.units + 66 < cLine) : CallR X (.builtin "sorted") (rSortD g) := by
  intro pins s σ H vs us Q I r h
  obtain ⟨a, ws, ds, rfl, ha, rd, ok, al, so, hz, q⟩ := h
  obtain ⟨hz', its, n, rv, hob⟩ := I.hok a _ ha
  rw [Vals.ref1 r]
  have hl : s.heap.IsList a its.toArray := ⟨_, hob, rfl, n, rfl⟩
  have lens := rd.length
  refine PySem.W.sorted_data (bs := ds) (enc := D.py) (R := fun u d => ∃ v, RelV v u ∧ ∀ F, RepAll g F ws ds → Rep g F v d) hl (each_pair (ws := ws) (ds := ds) rv rd fun i v d h1 h2 F h => h.getD h2 h1) (each_reads hK I rv rd ok) ?_ ?_ hz ?_ fun out ho e => ?_
  · intro d hd d' hd'
    have := List.all_eq_true.mp al d hd
    exact List.all_eq_true.mp this d' hd'
  · simp only [sortable, Bool.or_eq_true] at so
    rcases so with so | so
    · refine .inl fun d hd => ?_
      have := List.all_eq_true.mp so d hd
      unfold tupB at this
      split at this
      · exact ⟨_, _, rfl⟩
      · cases this
    · refine .inr fun d hd => ?_
      have := List.all_eq_true.mp so d hd
      unfold othB at this
      split at this
      · cases this
      · cases this
      · rename_i h1 h2
        exact ⟨h2, h1⟩
  · intro d hd
    have := (okD_depth (List.all_eq_true.mp ok d hd)).2.2
    show X.A.units + 2 + d.py.depth < cLine
    omega
  · obtain ⟨vs', h1, h2⟩ := each_vals e
    obtain ⟨ep, he'⟩ := PyProof.Rows.sortedAll_at s.heap its out.toArray
    have hlen : vs'.length ≤ sizeLine := by rw [h1.length, ho]; exact hz
    refine ⟨.ref _, upd H (s.heap.objs.size + 1) (.lst vs'), I.laid (t' := s.toks) (fun _ _ => PyProof.Rows.sortedAll_old) (Nat.le_succ _) ⟨hlen, out, ep, h1, he'⟩, rfl, q vs' _ (I.hok.fresh (Nat.le_succ _)) fun F hF => ?_⟩
    exact each_repAll (h2.mono fun v d h => h F hF)
theorem okc_sorted : COkF g (rSortD g) sortedD := by
  intro F H n vs ds d Q s P rs e k
  unfold sortedD at e
  split at e
  · obtain ⟨v, rfl, r⟩ := rs.one
    split at e <;> cases e
    rename_i h
    simp only [Bool.and_eq_true, decide_eq_true_eq] at h
    obtain ⟨a, ws, rfl, ha, ra⟩ := r.lstE s
    refine ⟨a, ws, _, rfl, ha, ra.mono (s.trans vis_same), h.1.1.1, h.1.1.2, h.1.2, by rw [← sz]; exact h.2, fun us p hp hu => ?_⟩
    exact k p us _ (Grow.new P hp) (sub_new s P hp) (P.upd hp) hp upd_same (hu F ra)
  · cases e
  · cases e

/-! ### calls of built-ins -/
def evB (op : List D → Option D) (fr : Rho → M (List D)) : Rho → M D := fun ρ => do let xs ← fr ρ; M.opt (op xs)
def evBL (op : List D → Option (List D)) (fr : Rho → M (List D)) : Rho → M D := fun ρ => do let xs ← fr ρ; let r ← M.opt (op xs); pure (.lst r)
theorem tCB_of {r : List V → Hp → VK → Prop} {op : List D → Option D} {fr : Rho → M (List D)} {σ : St} {H : Hp} {Q : VK} (hk : COk g r op) (h : RdV g (evB op fr) σ H Q) : tCB r (RdAP g fr) σ H Q := by
  obtain ⟨F0, H0, F, ρ, n, d, n', e, m, k⟩ := h
  obtain ⟨xs, n1, e1, e⟩ := M.bind_some e
  obtain ⟨e3, e4⟩ := M.opt_ok e
  simp only at e3 e4
  subst e4
  exact ⟨F0, H0, F, ρ, n, xs, _, e1, m, fun vs F' H' g1 s1 P1 r1 => hk F' H' _ vs xs d Q s1 P1 r1 e3 fun v F2 H2 g2 s2 P2 r2 => k v F2 H2 (g1.trans g2) s2 P2 r2⟩
theorem tCB_ofF {r : List V → Hp → VK → Prop} {op : List D → Option (List D)} {fr : Rho → M (List D)} {σ : St} {H : Hp} {Q : VK} (hk : COkF g r op) (h : RdF g (evBL op fr) σ H Q) : tCB r (RdAP g fr) σ H Q := by
  obtain ⟨F0, H0, F, ρ, n, d, n', e, m, k⟩ := h
  obtain ⟨xs, n1, e1, e⟩ := M.bind_some e
  obtain ⟨l, n2, e2, e⟩ := M.bind_some e
  cases e
  obtain ⟨e3, e4⟩ := M.opt_ok e2
  simp only at e3 e4
  subst e4
  refine ⟨F0, H0, F, ρ, n, xs, _, e1, m, fun vs F' H' g1 s1 P1 r1 => hk F' H' _ vs xs l Q s1 P1 r1 e3 fun a ws H2 g2 s2 P2 hn hw rw' => ?_⟩
  exact k a F' H2 (g1.trans g2) s2 P2 (g1.fresh hn) (sub_none s1 hn) ⟨ws, l, rfl, hw, rw'⟩
variable {x : Str} {p pos : Pos} {e : Expr} {es : List Expr} {id T : String} {fr : Rho → M (List D)}
theorem de_callB {r : List V → Hp → VK → Prop} {op : List D → Option D} (hk : COk g r op) (hc : CallR X (.builtin id) r) (hg : Gl X x) (hm : X.mg x = none) (hv : bootBuiltins x = some (.builtin id)) (ha : PA X (e :: es) (RdAP g fr)) (hn : x ≠ "__name__") (hdb : (x == ("__debug__" : Str)) = false)
    (he : starEach (e :: es) X.env = (false, eval e X.env) :: starEach es X.env) (hpl : (backTo pos (starEach es X.env)).any (·.1) = false) : PE X (.Call (.Name x p) (e :: es) [] pos) (RdV g (evB op fr)) :=
  pe_wk (pe_callB hc hg hm hv ha hn hdb he hpl) fun σ H Q h => tCB_of hk h
theorem de_callTy {r : List V → Hp → VK → Prop} {op : List D → Option D} (hk : COk g r op) (hc : CallR X (.type T) r) (hg : Gl X x) (hm : X.mg x = none) (hv : bootBuiltins x = some (.type T)) (ha : PA X (e :: es) (RdAP g fr)) (hn : x ≠ "__name__") (hdb : (x == ("__debug__" : Str)) = false)
    (he : starEach (e :: es) X.env = (false, eval e X.env) :: starEach es X.env) (hpl : (backTo pos (starEach es X.env)).any (·.1) = false) : PE X (.Call (.Name x p) (e :: es) [] pos) (RdV g (evB op fr)) :=
  pe_wk (pe_callTy hc hg hm hv ha hn hdb he hpl) fun σ H Q h => tCB_of hk h
theorem df_callB {r : List V → Hp → VK → Prop} {op : List D → Option (List D)} (hk : COkF g r op) (hc : CallR X (.builtin id) r) (hg : Gl X x) (hm : X.mg x = none) (hv : bootBuiltins x = some (.builtin id)) (ha : PA X (e :: es) (RdAP g fr)) (hn : x ≠ "__name__") (hdb : (x == ("__debug__" : Str)) = false)
    (he : starEach (e :: es) X.env = (false, eval e X.env) :: starEach es X.env) (hpl : (backTo pos (starEach es X.env)).any (·.1) = false) : PE X (.Call (.Name x p) (e :: es) [] pos) (RdF g (evBL op fr)) :=
  pe_wk (pe_callB hc hg hm hv ha hn hdb he hpl) fun σ H Q h => tCB_ofF hk h
theorem df_callTy {r : List V → Hp → VK → Prop} {op : List D → Option (List D)} (hk : COkF g r op) (hc : CallR X (.type T) r) (hg : Gl X x) (hm : X.mg x = none) (hv : bootBuiltins x = some (.type T)) (ha : PA X (e :: es) (RdAP g fr)) (hn : x ≠ "__name__") (hdb : (x == ("__debug__" : Str)) = false)
    (he : starEach (e :: es) X.env = (false, eval e X.env) :: starEach es X.env) (hpl : (backTo pos (starEach es X.env)).any (·.1) = false) : PE X (.Call (.Name x p) (e :: es) [] pos) (RdF g (evBL op fr)) :=
  pe_wk (pe_callTy hc hg hm hv ha hn hdb he hpl) fun σ H Q h => tCB_ofF hk h

/-! ### isinstance -/
inductive TyK where
  | bool | int | str | tuple | list | dict
  deriving DecidableEq
def TyK.name : TyK → String
  | .bool => "bool" | .int => "int" | .str => "str" | .tuple => "tuple" | .list => "list" | .dict => "dict"
def D.ty : D → Option String
  | .none => some "NoneType" | .bool _ => some "bool" | .int _ => some "int" | .str _ => some "str" | .tup _ => some "tuple" | .lst _ => some "list" | .pool => Option.none | .scr _ => Option.none
def isiD (t : TyK) : D → Option Bool
  | .bool _ => some (t == .bool || t == .int)
  | .int _ => some (t == .int)
  | .str _ => some (t == .str)
  | .tup _ => some (t == .tuple)
  | .lst _ => some (t == .list)
  | .none => some false
  | .pool => none
  | .scr _ => none
theorem isiD_kit {t : TyK} {d : D} {b : Bool} (h : isiD t d = some b) : ∃ n, d.ty = some n ∧ kitB n t.name = some b := by
  cases d <;> simp only [isiD, Option.some.injEq, reduceCtorEq] at h <;> subst h <;> refine ⟨_, rfl, ?_⟩ <;> cases t <;> decide +kernel
theorem tyX_of {F H : Hp} {v : V} {d : D} {n : String} (s : Same F (vis g H)) (r : PRep g F H v d) (h : d.ty = some n) : TyX g.K H v (.type n) := by
  cases d <;> simp only [D.ty, Option.some.injEq, reduceCtorEq] at h <;> subst h
  · cases r.noneE; exact .base .non
  · cases r.boolE; exact .base (.bl _)
  · cases r.intE; exact .base (.int _)
  · cases r.strE; exact .base (.str _)
  · obtain ⟨a, vs, rfl, _, h, _⟩ := r.tupE s
    rcases h with (h | ⟨o, h⟩) | ⟨o, its, n, h1, h2, _⟩
    · exact .base (.tup h)
    · exact .fTuple h
    · exact .kTuple h1 h2
  · obtain ⟨a, vs, rfl, h, _⟩ := r.lstE s
    exact .base (.lst h)
def evIsi (t : TyK) (fa : Rho → M D) : Rho → M D := fun ρ => do let x ← fa ρ; M.opt ((isiD t x).map D.bool)
variable {fa : Rho → M D} {a : Expr} {y : Str} {p' : Pos}
theorem de_isi (hK : X.K = g.K) (t : TyK) (hg : Gl X "isinstance") (hm : X.mg "isinstance" = none) (hgT : Gl X y) (hmT : X.mg y = none) (hvT : bootBuiltins y = some (.type t.name)) (ha : PE X a (RdP g fa)) (hs : starEach [a, .Name y p'] X.env = (false, eval a X.env) :: starEach [.Name y p'] X.env) (hn : y ≠ "__name__") (hdb : (y == ("__debug__" : Str)) = false) :
    PE X (.Call (.Name "isinstance" p) [a, .Name y p'] [] pos) (RdV g (evIsi t fa)) := by
  refine pe_wk (pe_callB call_isi hg hm (by decide +kernel) (pa_cons ha (pa_cons (pe_bltn (v := .ty t.name) hgT hmT hvT rfl hn hdb) pa_nil) hs) (by decide) (by decide) hs) fun σ H Q ⟨F0, H0, F, ρ, n, d, n', e, m, k⟩ => ?_
  obtain ⟨x, n1, e1, e⟩ := M.bind_some e
  obtain ⟨e3, e4⟩ := M.opt_ok e
  simp only [Option.map_eq_some_iff] at e3 e4
  obtain ⟨b, e3, rfl⟩ := e3
  subst e4
  refine ⟨F0, H0, F, ρ, n, x, _, e1, m, fun v F' H' gr s P r => ?_⟩
  obtain ⟨nm, h1, h2⟩ := isiD_kit e3
  exact ⟨v, .ty t.name, .type nm, .type t.name, b, rfl, .ty _, by rw [hK]; exact tyX_of s r h1, kit_ty h2, k _ F' H' gr s P (.bl _)⟩

/-! ### methods of texts -/
def upperD : D → Option D
  | .str x => if x.length ≤ 5592405 then some (.str (Txt.upper x)) else none
  | _ => none
def evUpper (fa : Rho → M D) : Rho → M D := fun ρ => do let x ← fa ρ; M.opt (upperD x)
theorem de_upper {apos cpos : Pos} (ha : PE X a (RdP g fa)) (hb : attributeBase a "upper" X.env (eval a X.env) = eval a X.env) (hl : (apos.endLine == cpos.line) = true) : PE X (.Call (.Attribute a "upper" apos) [] [] cpos) (RdV g (evUpper fa)) := by
  refine pe_wk (pe_upper ha hb hl) fun σ H Q ⟨F0, H0, F, ρ, n, d, n', e, m, k⟩ => ?_
  obtain ⟨x, n1, e1, e⟩ := M.bind_some e
  obtain ⟨e3, e4⟩ := M.opt_ok e
  simp only at e3 e4
  subst e4
  refine ⟨F0, H0, F, ρ, n, x, _, e1, m, fun v F' H' gr s P r => ?_⟩
  cases x <;> simp only [upperD, reduceCtorEq] at e3
  split at e3
  case isFalse => cases e3
  rename_i h
  cases e3
  cases r.strE
  exact ⟨⟨_, rfl⟩, _, rfl, rfl, h, k _ F' H' gr s P (.str _)⟩

/-! ### calls of own defs -/
def spF (g : Gh) (C : List D → M D) : Sp := fun vs H Q _ => ∃ F n ds d n', Same F (vis g H) ∧ PoolAt g n H ∧ RepAll g F vs ds ∧ C ds n = some (d, n') ∧
  ∀ v F' H', Grow g F H F' H' → Same F' (vis g H') → PoolAt g n' H' → Rep g F' v d → Q v H'
def evC (C : List D → M D) (fr : Rho → M (List D)) : Rho → M D := fun ρ => do let xs ← fr ρ; C xs
theorem de_call {C : List D → M D} {k : Nat} {f : Addr} {fd : FuncData} {ps : List Str} (F : FnOk X.prog X.w X.K X.mg X.base CX0 k f fd ps (spF g C)) (hr : Room k X.A) (hg : Gl X x) (hm : X.mg x = some (.ref f)) (hk : PySem.W.keepIn X.K (.ref f) = true) (hb : Binds X.K fd ps [])
    (ha : PA X (e :: es) (RdA g fr)) (hdb : (x == ("__debug__" : Str)) = false) (he : starEach (e :: es) X.env = (false, eval e X.env) :: starEach es X.env) (hpl : (backTo pos (starEach es X.env)).any (·.1) = false) :
    PE X (.Call (.Name x p) (e :: es) [] pos) (RdV g (evC C fr)) := by
  refine pe_wk (pe_call F hr hg hm hk hb .nil pass0 ha hdb he hpl) fun σ H Q ⟨F0, H0, F, ρ, n, d, n', e, m, k⟩ => ?_
  obtain ⟨xs, n1, e1, e⟩ := M.bind_some e
  refine ⟨F0, H0, F, ρ, n, xs, n1, e1, m, fun vs F' H' g1 s1 P1 r1 => ⟨F', n1, xs, d, n', s1, P1, by rw [List.append_nil]; exact r1, e, fun v F2 H2 g2 s2 P2 r2 => k v F2 H2 (g1.trans g2) s2 P2 r2⟩⟩
theorem de_call0 {C : List D → M D} {k : Nat} {f : Addr} {fd : FuncData} {ps : List Str} (F : FnOk X.prog X.w X.K X.mg X.base CX0 k f fd ps (spF g C)) (hr : Room k X.A) (hg : Gl X x) (hm : X.mg x = some (.ref f)) (hk : PySem.W.keepIn X.K (.ref f) = true) (hb : Binds X.K fd ps [])
    (hdb : (x == ("__debug__" : Str)) = false) : PE X (.Call (.Name x p) [] [] pos) (RdV g (evC C evNil)) := by
  refine pe_wk (pe_call0 F hr hg hm hk hb .nil pass0 hdb) fun σ H Q ⟨F0, H0, F, ρ, n, d, n', e, m, k⟩ => ?_
  obtain ⟨xs, n1, e1, e⟩ := M.bind_some e
  cases e1
  exact ⟨F, n, [], d, n', m.sub, m.pool, .nil, e, fun v F2 H2 g2 s2 P2 r2 => k v F2 H2 g2 s2 P2 r2⟩
end
end Ev

set_option Elab.async false
set_option linter.all false
set_option autoImplicit false
set_option maxRecDepth 100000
/-! Ev4: targets, what is walked, comprehensions. -/
namespace Ev
open PySem PySem.Spec PyProof.Rows L2

/-! ### targets -/
inductive Tgt where
  | nm (i : Nat)
  | tp (t : Tgt) (u : Tgt)
  | tp3 (t : Tgt) (u : Tgt) (v : Tgt)
  deriving Inhabited
def Tgt.slots : Tgt → List Nat
  | .nm i => [i]
  | .tp t u => t.slots ++ u.slots
  | .tp3 t u v => t.slots ++ (u.slots ++ v.slots)
def bindT : Tgt → D → Rho → Option Rho
  | .nm i, d, ρ => some (ρ.set i (.val d))
  | .tp t u, .tup [x, y], ρ => (bindT t x ρ).bind fun ρ' => bindT u y ρ'
  | .tp3 t u v, .tup [x, y, z], ρ => (bindT t x ρ).bind fun ρ' => (bindT u y ρ').bind fun ρ'' => bindT v z ρ''
  | _, _, _ => none
/-- the slots alike but at vs -/
def ButAt (vs : List Nat) (σ σ' : St) : Prop := ∀ ws : List Nat, (∀ i ∈ vs, i ∈ ws) → wipe σ' ws = wipe σ ws
theorem wipe_set_out {x : Option V} {i : Nat} : ∀ {vs : List Nat} {σ : St}, i ∉ vs → wipe (σ.set i x) vs = (wipe σ vs).set i x
  | [], _, _ => rfl
  | v :: vs, σ, h => by
    simp only [List.mem_cons, not_or] at h
    show (wipe (σ.set i x) vs).set v none = ((wipe σ vs).set v none).set i x
    rw [wipe_set_out h.2, List.set_comm _ _ h.1]
theorem wipe_set {x : Option V} {i : Nat} : ∀ {vs : List Nat} {σ : St}, i ∈ vs → wipe (σ.set i x) vs = wipe σ vs
  | v :: vs, σ, h => by
    show (wipe (σ.set i x) vs).set v none = (wipe σ vs).set v none
    by_cases hi : i ∈ vs
    · rw [wipe_set hi]
    · have e : i = v := by
        rcases List.mem_cons.mp h with e | e
        · exact e
        · exact absurd e hi
      subst e
      rw [wipe_set_out hi, List.set_set]
theorem ButAt.trans {vs ws : List Nat} {a b c : St} (h1 : ButAt vs a b) (h2 : ButAt ws b c) : ButAt (vs ++ ws) a c := fun us hu =>
  (h2 us fun i hi => hu i (List.mem_append_right _ hi)).trans (h1 us fun i hi => hu i (List.mem_append_left _ hi))
theorem Mdl.set {g : Gh} {F0 H0 F H : Hp} {ρ : Rho} {n : Nat} {σ : St} {d : D} {v : V} (m : Mdl g F0 H0 F ρ n σ H) (i : Nat) (r : Rep g F v d) : Mdl g F0 H0 F (ρ.set i (.val d)) n (σ.set i (some v)) H := by
  refine ⟨m.gr, m.p0, m.sub, m.pool, by simp [m.len], fun j sl e => ?_, fun j k dj dk a e1 e2 e3 e4 => ?_⟩
  · rw [List.getElem?_set] at e
    by_cases h : i = j
    · subst h
      rw [if_pos rfl] at e
      split at e
      · rename_i hl
        cases e
        exact ⟨v, by rw [List.getElem?_set_self (by rw [← m.len]; exact hl)], r⟩
      · cases e
    · rw [if_neg h] at e
      rw [List.getElem?_set_ne h]
      exact m.slot j sl e
  · rw [List.getElem?_set] at e1 e2
    by_cases h1 : i = j
    · subst h1; simp at e1
    · by_cases h2 : i = k
      · subst h2; simp at e2
      · rw [if_neg h1] at e1
        rw [if_neg h2] at e2
        rw [List.getElem?_set_ne h1] at e3
        rw [List.getElem?_set_ne h2] at e4
        exact m.dis j k dj dk a e1 e2 e3 e4

def gRd (g : Gh) (t : Tgt) : TG := fun v σ H Q => ∃ F0 H0 F ρ n d ρ', bindT t d ρ = some ρ' ∧ Mdl g F0 H0 F ρ n σ H ∧ Rep g F v d ∧ ∀ σ', ButAt t.slots σ σ' → Mdl g F0 H0 F ρ' n σ' H → Q σ' H
section
variable {X : Cx} {g : Gh} {pos : Pos}
theorem pg_wk {e : Expr} {t t' : TG} (h : PG X e t) (w : ∀ v σ H Q, t' v σ H Q → t v σ H Q) : PG X e t' := ⟨fun pins s σ H v u Q I r hw => h.run pins s σ H v u Q I r (w v σ H Q hw)⟩
theorem dg_nm {i : Nat} {x : Str} (hN : X.N.Nodup) (hi : X.N[i]? = some x) (hx : Loc X.env.scope x) (hf : X.fn x = true ∨ X.env.scope.names.lookup x = some .local) : PG X (.Name x pos) (gRd g (.nm i)) :=
  pg_wk (pg_name hN hi hx hf) fun v σ H Q ⟨F0, H0, F, ρ, n, d, ρ', e, m, r, k⟩ => by
    cases e
    exact k _ (fun ws hw => wipe_set (hw i (by simp [Tgt.slots]))) (m.set i r)
theorem dg_tp {t u : Tgt} {a b : Expr} {kk : Nat} (hK : X.K = g.K) (hc : X.calm = true) (ha : PG X a (gRd g t)) (hb : PG X b (gRd g u))
    (hs : (assignEach [a, b] X.env).map (·.2) = assign a X.env :: (assignEach [b] X.env).map (·.2)) (hs2 : (assignEach [b] X.env).map (·.2) = assign b X.env :: (assignEach [] X.env).map (·.2))
    (hn : (assignEach [a, b] X.env).length = 2) (hst : (assignEach [a, b] X.env).findIdx? (·.1) = none) : PG X (.Tuple [a, b] kk pos) (gRd g (.tp t u)) := by
  refine pg_wk (pg_tup hc (pgs_cons ha (pgs_cons hb pgs_nil hs2) hs) hn hst) fun v σ H Q ⟨F0, H0, F, ρ, n, d, ρ', e, m, r, k⟩ => ?_
  obtain ⟨ds, rfl⟩ : ∃ ds, d = .tup ds := by
    cases d with
    | tup ds => exact ⟨ds, rfl⟩
    | _ => cases e
  match ds, e with
  | [x, y], e =>
    simp only [bindT, Option.bind_eq_some_iff] at e
    obtain ⟨ρ1, e1, e2⟩ := e
    obtain ⟨a', vs, rfl, hf, hh, ra⟩ := PRep.tupE m.sub (.inl r)
    cases ra with
    | cons r1 ra =>
      cases ra with
      | cons r2 ra =>
        cases ra
        refine ⟨a', _, rfl, by rw [hK]; exact hh, rfl, ?_⟩
        refine ⟨_, _, rfl, F0, H0, F, ρ, n, x, ρ1, e1, m, r1, fun σ1 b1 m1 => ⟨_, _, rfl, F0, H0, F, ρ1, n, y, ρ', e2, m1, r2, fun σ2 b2 m2 => ⟨rfl, ?_⟩⟩⟩
        exact k σ2 (b1.trans b2) m2
theorem dg_tp3 {t u w : Tgt} {a b c : Expr} {kk : Nat} (hK : X.K = g.K) (hc : X.calm = true) (ha : PG X a (gRd g t)) (hb : PG X b (gRd g u)) (hd : PG X c (gRd g w))
    (hs : (assignEach [a, b, c] X.env).map (·.2) = assign a X.env :: (assignEach [b, c] X.env).map (·.2)) (hs2 : (assignEach [b, c] X.env).map (·.2) = assign b X.env :: (assignEach [c] X.env).map (·.2)) (hs3 : (assignEach [c] X.env).map (·.2) = assign c X.env :: (assignEach [] X.env).map (·.2))
    (hn : (assignEach [a, b, c] X.env).length = 3) (hst : (assignEach [a, b, c] X.env).findIdx? (·.1) = none) : PG X (.Tuple [a, b, c] kk pos) (gRd g (.tp3 t u w)) := by
  refine pg_wk (pg_tup hc (pgs_cons ha (pgs_cons hb (pgs_cons hd pgs_nil hs3) hs2) hs) hn hst) fun v σ H Q ⟨F0, H0, F, ρ, n, d, ρ', e, m, r, k⟩ => ?_
  obtain ⟨ds, rfl⟩ : ∃ ds, d = .tup ds := by
    cases d with
    | tup ds => exact ⟨ds, rfl⟩
    | _ => cases e
  match ds, e with
  | [x, y, z], e =>
    simp only [bindT, Option.bind_eq_some_iff] at e
    obtain ⟨ρ1, e1, ρ2, e2, e3⟩ := e
    obtain ⟨a', vs, rfl, hf, hh, ra⟩ := PRep.tupE m.sub (.inl r)
    cases ra with
    | cons r1 ra =>
      cases ra with
      | cons r2 ra =>
        cases ra with
        | cons r3 ra =>
        cases ra
        refine ⟨a', _, rfl, by rw [hK]; exact hh, rfl, ?_⟩
        refine ⟨_, _, rfl, F0, H0, F, ρ, n, x, ρ1, e1, m, r1, fun σ1 b1 m1 => ⟨_, _, rfl, F0, H0, F, ρ1, n, y, ρ2, e2, m1, r2, fun σ2 b2 m2 => ⟨_, _, rfl, F0, H0, F, ρ2, n, z, ρ', e3, m2, r3, fun σ3 b3 m3 => ⟨rfl, ?_⟩⟩⟩⟩
        refine k σ3 ?_ m3
        exact b1.trans (b2.trans b3)
end

/-! ### what is walked -/
/-- J gives the data ds one after the other, as they are frozen in F -/
structure Walks (g : Gh) (J : It) (F : Hp) (ds : List D) : Prop where
  stop : ∀ F1 H, Same F F1 → Same F1 (vis g H) → J.stop ds.length H
  go : ∀ i d F1 H n, Same F F1 → Same F1 (vis g H) → PoolAt g n H → ds[i]? = some d → J.go i H ∧ ∀ x H', J.yld i H x H' → ∃ F2, Grow g F1 H F2 H' ∧ Same F2 (vis g H') ∧ PoolAt g n H' ∧ Rep g F2 x d
def RdI (g : Gh) (f : Rho → M (List D)) : TI := fun σ H R => ∃ F0 H0 F ρ n ds n', f ρ n = some (ds, n') ∧ Mdl g F0 H0 F ρ n σ H ∧
  ∀ J F' H', Grow g F H F' H' → Same F' (vis g H') → PoolAt g n' H' → Walks g J F' ds → R J H'
theorem walks_list {g : Gh} {K : PySem.W.Frag} {F : Hp} {a : Addr} {vs : List V} {ds : List D} (h : F a = some (.lst vs)) (r : RepAll g F vs ds) : Walks g (Itl K a) F ds := by
  have at_ : ∀ F1 H, Same F F1 → Same F1 (vis g H) → SqL K H a vs := fun F1 H s1 s2 => .of ((s1.trans s2).trans vis_same a _ h)
  refine ⟨fun F1 H s1 s2 => ⟨vs, at_ F1 H s1 s2, by rw [r.length]; exact Nat.le_refl _⟩, fun i d F1 H n s1 s2 P e => ?_⟩
  obtain ⟨v, hv, rv⟩ := r.get e
  refine ⟨⟨vs, v, at_ F1 H s1 s2, hv⟩, fun x H' ⟨e1, y⟩ => ?_⟩
  subst e1
  have e2 := y vs (at_ F1 _ s1 s2)
  rw [hv] at e2; cases e2
  exact ⟨F1, Grow.refl, s2, P, rv.mono s1⟩
theorem walks_tup {g : Gh} {F : Hp} {a : Addr} {vs : List V} {ds : List D} (h : SqT g.K F a vs) (r : RepAll g F vs ds) : Walks g (Itt g.K a) F ds := by
  have at_ : ∀ F1 H, Same F F1 → Same F1 (vis g H) → SqT g.K H a vs := fun F1 H s1 s2 => seqT_mono ((s1.trans s2).trans vis_same) h
  refine ⟨fun F1 H s1 s2 => ⟨vs, at_ F1 H s1 s2, by rw [r.length]; exact Nat.le_refl _⟩, fun i d F1 H n s1 s2 P e => ?_⟩
  obtain ⟨v, hv, rv⟩ := r.get e
  refine ⟨⟨vs, v, at_ F1 H s1 s2, hv⟩, fun x H' ⟨e1, y⟩ => ?_⟩
  subst e1
  have e2 := y vs (at_ F1 _ s1 s2)
  rw [hv] at e2; cases e2
  exact ⟨F1, Grow.refl, s2, P, rv.mono s1⟩
def rangeD (lo : Int) (n : Nat) : List D := (List.range n).map fun (k : Nat) => D.int (lo + (k : Int))
theorem walks_range {g : Gh} {F : Hp} {lo : Int} {n : Nat} : Walks g (Itr lo n) F (rangeD lo n) := by
  refine ⟨fun F1 H s1 s2 => by show n ≤ _; simp [rangeD], fun i d F1 H m s1 s2 P e => ?_⟩
  simp only [rangeD, List.getElem?_map, Option.map_eq_some_iff] at e
  obtain ⟨k, e, rfl⟩ := e
  obtain ⟨h1, rfl⟩ : i < n ∧ k = i := by
    rw [List.getElem?_eq_some_iff] at e
    obtain ⟨h, e⟩ := e
    simp at h e
    exact ⟨h, e.symm⟩
  exact ⟨h1, fun x H' ⟨e1, e2⟩ => by
    subst e1 e2
    exact ⟨F1, Grow.refl, s2, P, .int _⟩⟩

/-! ### comprehensions -/
def wipeR (ρ : Rho) : List Nat → Rho
  | [] => ρ
  | v :: vs => (wipeR ρ vs).set v .un
theorem Mdl.setUn {g : Gh} {F0 H0 F H : Hp} {ρ : Rho} {n : Nat} {σ : St} (m : Mdl g F0 H0 F ρ n σ H) (i : Nat) (x : Option V) : Mdl g F0 H0 F (ρ.set i .un) n (σ.set i x) H := by
  refine ⟨m.gr, m.p0, m.sub, m.pool, by simp [m.len], fun j sl e => ?_, fun j k dj dk a e1 e2 e3 e4 => ?_⟩
  · rw [List.getElem?_set] at e
    by_cases h : i = j
    · subst h
      rw [if_pos rfl] at e
      split at e
      · cases e; trivial
      · cases e
    · rw [if_neg h] at e
      rw [List.getElem?_set_ne h]
      exact m.slot j sl e
  · rw [List.getElem?_set] at e1 e2
    by_cases h1 : i = j
    · subst h1; simp at e1
    · by_cases h2 : i = k
      · subst h2; simp at e2
      · rw [if_neg h1] at e1
        rw [if_neg h2] at e2
        rw [List.getElem?_set_ne h1] at e3
        rw [List.getElem?_set_ne h2] at e4
        exact m.dis j k dj dk a e1 e2 e3 e4
theorem Mdl.wipe {g : Gh} {F0 H0 F H : Hp} {ρ : Rho} {n : Nat} {σ : St} (m : Mdl g F0 H0 F ρ n σ H) : ∀ vs : List Nat, Mdl g F0 H0 F (wipeR ρ vs) n (L2.wipe σ vs) H
  | [] => m
  | v :: vs => (Mdl.wipe m vs).setUn v none
def lcGo (body : D → M (Option D)) : List D → M (List D)
  | [] => pure []
  | x :: xs => do
    let r ← body x
    let rs ← lcGo body xs
    pure (r.toList ++ rs)
def lcBody (own : List Nat) (t : Tgt) (fc : Rho → M Bool) (fe : Rho → M D) (ρ : Rho) (d : D) : M (Option D) := do
  let ρ' ← M.opt (bindT t d (wipeR ρ own))
  let c ← fc ρ'
  if c then (do let y ← fe ρ'; pure (some y)) else pure none
def evLc (own : List Nat) (t : Tgt) (fi : Rho → M (List D)) (fc : Rho → M Bool) (fe : Rho → M D) : Rho → M D := fun ρ => do
  let ds ← fi ρ
  if ds.length ≤ 16777216 then (do let rs ← lcGo (lcBody own t fc fe ρ) ds; pure (.lst rs)) else M.fail
def evYes : Rho → M Bool := fun _ => pure true

theorem Grow.updN {g : Gh} {F H F1 H1 : Hp} {p : Addr} {o : HO} (x : Grow g F H F1 H1) (h : H p = Option.none) (hp : g.live = true → p ≠ g.pc) : Grow g F H F1 (upd H1 p o) := by
  refine ⟨x.f, fun b u e => ?_, fun hl z => ?_, x.nw⟩
  · have ne : b ≠ p := by
      rintro rfl
      obtain ⟨_, e⟩ := vis_some e
      rw [h] at e; cases e
    rw [vis_upd hp, upd_ne ne]
    exact x.h b u e
  · rw [upd_ne (hp hl).symm]; exact x.c hl z
theorem sub_updN {g : Gh} {F H : Hp} {p : Addr} {o : HO} (s : Same F (vis g H)) (h : F p = Option.none) (hp : g.live = true → p ≠ g.pc) : Same F (vis g (upd H p o)) := fun b u e => by
  have ne : b ≠ p := by rintro rfl; rw [h] at e; cases e
  rw [vis_upd hp, upd_ne ne]
  exact s b u e
theorem PoolAt.updN {g : Gh} {n : Nat} {H : Hp} {p : Addr} {o : HO} (P : PoolAt g n H) (hh : g.live = true → p ≠ g.pp ∧ p ≠ g.pr ∧ p ≠ g.pc) : PoolAt g n (L2.upd H p o) := fun hl =>
  have P := P hl
  have h := hh hl
  ⟨by rw [upd_ne h.1.symm]; exact P.p, by rw [upd_ne h.2.1.symm]; exact P.r, by rw [upd_ne h.2.2.symm]; exact P.c, P.np, P.nr⟩

section
variable {X : Cx} {g : Gh} {pos : Pos}
theorem pts_wk {ifs : List Expr} {t t' : TT} (h : PTs X ifs t) (w : ∀ σ H Q, t' σ H Q → t σ H Q) : PTs X ifs t' := ⟨fun pins s σ H Q I hw => h.run pins s σ H Q I (w σ H Q hw)⟩
theorem dts_nil : PTs X [] (RdT g evYes) := pts_wk pts_nil fun σ H Q ⟨F0, H0, F, ρ, n, b, n', e, m, k⟩ => by
  cases e
  exact k F H Grow.refl m.sub m.pool
theorem tLc_of {t : Tgt} {own : List Nat} {fi : Rho → M (List D)} {fc : Rho → M Bool} {fe : Rho → M D} {σ : St} {H : Hp} {Q : VK} (ho : ∀ i ∈ t.slots, i ∈ own) (h : RdF g (evLc own t fi fc fe) σ H Q) :
    tLc (RdI g fi) (gRd g t) (RdT g fc) (RdV g fe) own σ H Q := by
  obtain ⟨F0, H0, F, ρ, n, d, n', e, m, k⟩ := h
  obtain ⟨ds, n1, e1, e⟩ := M.bind_some e
  split at e
  case isFalse => cases e
  rename_i hz
  obtain ⟨rs, n2, e2, e⟩ := M.bind_some e
  cases e
  refine ⟨F0, H0, F, ρ, n, ds, n1, e1, m, fun J F1 H1 g1 s1 P1 wk D hD => ?_⟩
  have ne := P1.fresh hD
  have nc : g.live = true → D ≠ g.pc := fun hl => (ne hl).2.2
  have hD0 := sub_none s1 hD
  refine ⟨fun i mm H => mm + i = ds.length ∧ ∃ F2 nn acc accD rest, lcGo (lcBody own t fc fe ρ) (ds.drop i) nn = some (rest, n') ∧ accD ++ rest = rs ∧ accD.length ≤ i ∧ Grow g F1 H1 F2 H ∧ H D = some (.lst acc) ∧ F2 D = none ∧ RepAll g F2 acc accD ∧ Same F2 (vis g H) ∧ PoolAt g nn H,
    ⟨ds.length, by omega, F1, n1, [], [], rs, e2, rfl, Nat.le_refl _, Grow.refl.updN hD nc, upd_same, hD0, .nil, sub_updN s1 hD0 nc, P1.updN ne⟩, ?_⟩
  rintro i mm H ⟨hm, F2, nn, acc, accD, rest, e3, e4, hl, g2, hd, hd2, ra, s2, P2⟩
  have gg := g1.trans g2
  by_cases hi : i < ds.length
  · refine .inr ?_
    obtain ⟨d, hdi⟩ : ∃ d, ds[i]? = some d := ⟨ds[i], by simp [hi]⟩
    have hdrop : ds.drop i = d :: ds.drop (i + 1) := by
      rw [List.drop_eq_getElem_cons hi]
      congr 1
      rw [List.getElem?_eq_getElem hi] at hdi
      exact Option.some.inj hdi
    rw [hdrop] at e3
    obtain ⟨r, n3, e5, e3⟩ := M.bind_some e3
    obtain ⟨rs', n4, e6, e3⟩ := M.bind_some e3
    cases e3
    obtain ⟨hgo, hy⟩ := wk.go i d F2 H nn g2.f s2 P2 hdi
    refine ⟨hgo, fun H' => ∃ F2 acc accD, accD ++ rs' = rs ∧ accD.length ≤ i + 1 ∧ Grow g F1 H1 F2 H' ∧ H' D = some (.lst acc) ∧ F2 D = none ∧ RepAll g F2 acc accD ∧ Same F2 (vis g H') ∧ PoolAt g n3 H', ?_, ?_⟩
    · rintro H' ⟨F3, acc', accD', q1, q2, q3, q4, q5, q6, q7, q8⟩
      exact ⟨mm - 1, by omega, by omega, F3, n3, acc', accD', rs', e6, q1, q2, q3, q4, q5, q6, q7, q8⟩
    · intro x H' hx
      obtain ⟨F3, g3, s3, P3, r3⟩ := hy x H' hx
      unfold lcBody at e5
      obtain ⟨ρ', n5, e7, e5a⟩ := M.bind_some e5
      obtain ⟨e8, e9⟩ := M.opt_ok e7
      simp only at e8 e9
      subst e9
      obtain ⟨c, n6, e10, e5b⟩ := M.bind_some e5a
      clear e5 e5a e7
      have m3 := ((m.grow g1 s1 P1).grow g2 s2 P2).grow g3 s3 P3
      refine ⟨F0, H0, F3, _, _, d, ρ', e8, m3.wipe own, r3, fun σ' hb m4 => ⟨?_, ?_⟩⟩
      · rw [hb own ho]
        clear hb
        exact wipe_wipe own σ
      · refine ⟨F0, H0, F3, ρ', _, c, n6, e10, m4, fun F4 H4 g4 s4 P4 => ?_⟩
        have g14 := (g2.trans g3).trans g4
        have hD4 : H4 D = some (.lst acc) := by
          have := (g3.trans g4).h D _ (by rw [vis_ne nc]; exact hd)
          rwa [vis_ne nc] at this
        have hF4 : F4 D = none := by rw [(g3.trans g4).nw D (by rw [hd]; rfl)]; exact hd2
        cases c with
        | false =>
          cases e5b
          refine iteF ?_
          exact ⟨F4, acc, accD, by rw [← e4]; rfl, by omega, g14, hD4, hF4, ra.mono (g3.trans g4).f, s4, P4⟩
        | true =>
          obtain ⟨y, n7, e11, e5c⟩ := M.bind_some e5b
          cases e5c
          refine iteT ⟨F0, H0, F4, ρ', n6, y, _, e11, m4.grow g4 s4 P4, fun v F5 H5 g5 s5 P5 r5 => ?_⟩
          have hD5 : H5 D = some (.lst acc) := by
            have := g5.h D _ (by rw [vis_ne nc]; exact hD4)
            rwa [vis_ne nc] at this
          have hF5 : F5 D = none := by rw [g5.nw D (by rw [hD4]; rfl)]; exact hF4
          have hal := ra.length
          refine ⟨acc, hD5, by rw [← sz]; omega, F5, acc ++ [v], accD ++ [y], ?_, by simp; omega, (g14.trans g5).updN hD nc, upd_same, hF5, (ra.mono ((g3.trans g4).trans g5).f).snoc r5, sub_updN s5 hF5 nc, P5.updN ne⟩
          rw [← e4]; simp
  · refine .inl ?_
    have hi' : i = ds.length := by omega
    subst hi'
    rw [List.drop_length] at e3
    cases e3
    rw [List.append_nil] at e4
    subst e4
    exact ⟨wk.stop F2 H g2.f s2, k D F2 H gg s2 P2 (g1.fresh hD) hd2 ⟨acc, accD, rfl, hd, ra⟩⟩
where
  wipe_wipe : ∀ (vs : List Nat) (σ : St), L2.wipe (L2.wipe σ vs) vs = L2.wipe σ vs := fun vs σ => by
    have : ∀ (us : List Nat) (σ : St), (∀ i ∈ us, i ∈ vs) → L2.wipe (L2.wipe σ us) vs = L2.wipe σ vs := by
      intro us
      induction us with
      | nil => intro σ _; rfl
      | cons u us ih =>
        intro σ h
        show L2.wipe ((L2.wipe σ us).set u none) vs = L2.wipe σ vs
        rw [wipe_set (h u List.mem_cons_self)]
        exact ih σ fun i hi => h i (List.mem_cons_of_mem _ hi)
    exact this vs σ fun _ h => h
theorem df_lc {elt tg iter : Expr} {ifs : List Expr} {scope : Scope} {own : List (Str × Nat)} {t : Tgt} {fi : Rho → M (List D)} {fc : Rho → M Bool} {fe : Rho → M D} (hc : X.calm = true) (hN : X.N.Nodup) (hi : PI X tg iter (RdI g fi)) (ok : BlkOk X.N X.env.scope scope own)
    (hg : ∀ (s : Shared) (H : Hp) (C : Addr) (cl : List (Str × Addr)) (fp : List Addr), PG (X.blk s H scope (compEnvC scope cl C X.env) fp) tg (gRd g t)) (ht : ∀ (s : Shared) (H : Hp) (C : Addr) (cl : List (Str × Addr)) (fp : List Addr), PTs (X.blk s H scope (compEnvC scope cl C X.env) fp) ifs (RdT g fc))
    (he : ∀ (s : Shared) (H : Hp) (C : Addr) (cl : List (Str × Addr)) (fp : List Addr), PE (X.blk s H scope (compEnvC scope cl C X.env) fp) elt (RdV g fe)) (hs : ∀ x, foldedSetIterable iter X.env x = pure x) (ho : ∀ i ∈ t.slots, i ∈ own.map (·.2)) :
    PE X (.ListComp elt [⟨tg, iter, ifs, 0⟩] scope pos) (RdF g (evLc (own.map (·.2)) t fi fc fe)) :=
  pe_wk (pe_lc hc hN hi ok hg ht he hs) fun σ H Q h => tLc_of ho h
end
end Ev

set_option Elab.async false
set_option linter.all false
set_option autoImplicit false
set_option maxRecDepth 100000
/-! Ev5: iterables, statements. -/
namespace Ev
open PySem PySem.Spec PyProof.Rows L2

/-! ### iterables -/
def itemsD : D → Option (List D)
  | .lst ds => some ds
  | .tup ds => some ds
  | _ => none
def evItems (fa : Rho → M D) : Rho → M (List D) := fun ρ => do let d ← fa ρ; M.opt (itemsD d)
section
variable {X : Cx} {g : Gh} {tg : Expr}
theorem pi_wk {it : Expr} {t t' : TI} (h : PI X tg it t) (w : ∀ σ H Q, t' σ H Q → t σ H Q) : PI X tg it t' := ⟨fun pins s σ H Q I hw => h.run pins s σ H Q I (w σ H Q hw)⟩
def iSeq (K : PySem.W.Frag) (tl : TE) : TI := fun σ H R => tl σ H fun x H1 => ∃ a, x = .ref a ∧ (((∃ xs, SqL K H1 a xs) ∧ R (Itl K a) H1) ∨ ((∃ xs, SqT K H1 a xs) ∧ R (Itt K a) H1))
theorem pi_seq {l : Expr} {tl : TE} (hl : PE X l tl) : PI X tg l (iSeq X.K tl) := by
  refine ⟨fun pins s σ H R I h => ?_⟩
  refine thn (hl.run pins s σ H _ I h) fun v s1 ⟨x, H1, I1, r1, q1⟩ => ?_
  obtain ⟨a, e, ⟨⟨xs, hq⟩, q⟩ | ⟨⟨xs, hq⟩, q⟩⟩ := q1
  · subst e
    cases r1
    obtain ⟨its, rv, p, hz⟩ := I1.list hq
    refine wpAny_pyIter_list p.isList ?_
    refine ⟨s1.heap.objs.size, [s1.heap.objs.size], _, _, H1, rfl, I1.kept (t' := s1.toks) fun b o e => Heap.get?_push_of_some _ e, turn_list a _, ⟨_, Heap.get?_push_size _ rfl, rfl, rfl⟩, fun b hb => ?_, q⟩
    have e : b = s1.heap.objs.size := by simpa using hb
    subst e
    exact I1.fpOk (Nat.le_refl _) (I1.hok.fresh (Nat.le_refl _))
  · subst e
    cases r1
    obtain ⟨its, rv, p, hz⟩ := I1.tuple hq
    refine wpAny_pyIter_tuple (show s1.heap.IsTuple a its.toArray from p) ?_
    refine ⟨s1.heap.objs.size, [s1.heap.objs.size], _, _, H1, rfl, I1.kept (t' := s1.toks) fun b o e => Heap.get?_push_of_some _ e, turn_tuple a _, ⟨_, Heap.get?_push_size _ rfl, rfl, rfl⟩, fun b hb => ?_, q⟩
    have e : b = s1.heap.objs.size := by simpa using hb
    subst e
    exact I1.fpOk (Nat.le_refl _) (I1.hok.fresh (Nat.le_refl _))
theorem di_seq {l : Expr} {fa : Rho → M D} (hK : X.K = g.K) (h : PE X l (RdV g fa)) : PI X tg l (RdI g (evItems fa)) := by
  refine pi_wk (pi_seq h) fun σ H R ⟨F0, H0, F, ρ, n, ds, n', e, m, k⟩ => ?_
  obtain ⟨d, n1, e1, e⟩ := M.bind_some e
  obtain ⟨e3, e4⟩ := M.opt_ok e
  simp only at e3 e4
  subst e4
  refine ⟨F0, H0, F, ρ, n, d, _, e1, m, fun v F' H' gr s P r => ?_⟩
  cases r <;> simp only [itemsD, reduceCtorEq, Option.some.injEq] at e3
  · rename_i a vs ds' h r
    subst e3
    refine ⟨a, rfl, .inr ⟨⟨vs, by rw [hK]; exact seqT_mono (s.trans vis_same) h⟩, ?_⟩⟩
    rw [hK]
    exact k _ F' H' gr s P (walks_tup h r)
  · rename_i a vs ds' h r
    subst e3
    exact ⟨a, rfl, .inl ⟨⟨vs, .of (s.trans vis_same a _ h)⟩, k _ F' H' gr s P (walks_list h r)⟩⟩
def range1D : List D → Option (List D)
  | [.int j] => if decide (-(2 ^ 62) ≤ j) && decide (j < 2 ^ 62) then some (rangeD 0 j.toNat) else none
  | _ => none
def range2D : List D → Option (List D)
  | [.int i, .int j] => if decide (-(2 ^ 62) ≤ i) && decide (i < 2 ^ 62) && decide (-(2 ^ 62) ≤ j) && decide (j < 2 ^ 62) then some (rangeD i (j - i).toNat) else none
  | _ => none
def evIt (op : List D → Option (List D)) (fr : Rho → M (List D)) : Rho → M (List D) := fun ρ => do let xs ← fr ρ; M.opt (op xs)
theorem di_range1 {a : Expr} {p pos : Pos} {fr : Rho → M (List D)} (hg : Gl X "range") (hm : X.mg "range" = none) (ha : PA X [a] (RdA g fr)) (hs : starEach [a] X.env = [(false, eval a X.env)]) : PI X tg (.Call (.Name "range" p) [a] [] pos) (RdI g (evIt range1D fr)) := by
  refine pi_wk (pi_range1 hg hm ha hs) fun σ H R ⟨F0, H0, F, ρ, n, ds, n', e, m, k⟩ => ?_
  obtain ⟨xs, n1, e1, e⟩ := M.bind_some e
  obtain ⟨e3, e4⟩ := M.opt_ok e
  simp only at e3 e4
  subst e4
  refine ⟨F0, H0, F, ρ, n, xs, _, e1, m, fun vs F' H' gr s P r => ?_⟩
  unfold range1D at e3
  split at e3
  · rename_i j
    split at e3
    case isFalse => cases e3
    rename_i h
    cases e3
    simp only [Bool.and_eq_true, decide_eq_true_eq] at h
    cases r with
    | cons r t =>
      cases t
      cases r
      exact ⟨j, rfl, h.1, h.2, k _ F' H' gr s P walks_range⟩
  · cases e3
theorem di_range2 {a b : Expr} {p pos : Pos} {fr : Rho → M (List D)} (hg : Gl X "range") (hm : X.mg "range" = none) (ha : PA X [a, b] (RdA g fr)) (hs : starEach [a, b] X.env = [(false, eval a X.env), (false, eval b X.env)]) (hs2 : starEach [b] X.env = [(false, eval b X.env)]) :
    PI X tg (.Call (.Name "range" p) [a, b] [] pos) (RdI g (evIt range2D fr)) := by
  refine pi_wk (pi_range2 hg hm ha hs hs2) fun σ H R ⟨F0, H0, F, ρ, n, ds, n', e, m, k⟩ => ?_
  obtain ⟨xs, n1, e1, e⟩ := M.bind_some e
  obtain ⟨e3, e4⟩ := M.opt_ok e
  simp only at e3 e4
  subst e4
  refine ⟨F0, H0, F, ρ, n, xs, _, e1, m, fun vs F' H' gr s P r => ?_⟩
  unfold range2D at e3
  split at e3
  · rename_i i j
    split at e3
    case isFalse => cases e3
    rename_i h
    cases e3
    simp only [Bool.and_eq_true, decide_eq_true_eq] at h
    cases r with
    | cons r t =>
      cases r
      cases t with
      | cons r t =>
        cases t
        cases r
        exact ⟨i, j, rfl, ⟨h.1.1.1, h.1.1.2, h.1.2, h.2⟩, k _ F' H' gr s P walks_range⟩
  · cases e3
/-- zip of two lists or of two tuples -/
def zipD : List D → Option (List D)
  | [.lst xs, .lst ys] => some ((xs.zip ys).map fun p => .tup [p.1, p.2])
  | [.tup xs, .tup ys] => some ((xs.zip ys).map fun p => .tup [p.1, p.2])
  | _ => none
theorem walks_zipG {J : It} {F : Hp} {vs ws : List V} {ds es : List D} (rv : RepAll g F vs ds) (rw' : RepAll g F ws es)
    (hst : ∀ F1 H, Same F F1 → Same F1 (vis g H) → ∀ i, i = min vs.length ws.length → J.stop i H)
    (hgo : ∀ F1 H, Same F F1 → Same F1 (vis g H) → ∀ (i : Nat) v w, vs[i]? = some v → ws[i]? = some w → J.go i H)
    (hy : ∀ F1 H, Same F F1 → Same F1 (vis g H) → ∀ i x H' v w, vs[i]? = some v → ws[i]? = some w → J.yld i H x H' → ∃ T, x = .ref T ∧ H T = Option.none ∧ H' = upd H T (.tup [v, w])) :
    Walks g J F ((ds.zip es).map fun p => .tup [p.1, p.2]) := by
  refine ⟨fun F1 H s1 s2 => hst F1 H s1 s2 _ (by simp [rv.length, rw'.length]), fun i d F1 H n s1 s2 P e => ?_⟩
  simp only [List.getElem?_map, Option.map_eq_some_iff] at e
  obtain ⟨⟨d1, d2⟩, e, rfl⟩ := e
  rw [List.getElem?_zip_eq_some] at e
  obtain ⟨v, hv, r1⟩ := rv.get e.1
  obtain ⟨w, hw, r2⟩ := rw'.get e.2
  refine ⟨hgo F1 H s1 s2 i v w hv hw, fun x H' q => ?_⟩
  obtain ⟨T, rfl, hT, rfl⟩ := hy F1 H s1 s2 i x H' v w hv hw q
  exact ⟨upd F1 T (.tup [v, w]), Grow.newF s2 P hT, sub_newF s2 P hT, P.upd hT, .tup (.of upd_same) (.cons ((r1.mono s1).mono (same_upd (sub_none s2 hT))) (.cons ((r2.mono s1).mono (same_upd (sub_none s2 hT))) .nil))⟩
theorem di_zip {a b : Expr} {p pos tpos : Pos} {elts : List Expr} {kk : Nat} {fr : Rho → M (List D)} (hK : X.K = g.K) (hg : Gl X "zip") (hm : X.mg "zip" = none) (ha : PA X [a, b] (RdA g fr))
    (hs : starEach [a, b] X.env = (false, eval a X.env) :: starEach [b] X.env) (hpl : (backTo pos (starEach [b] X.env)).any (·.1) = false) :
    PI X (.Tuple elts kk tpos) (.Call (.Name "zip" p) [a, b] [] pos) (RdI g (evIt zipD fr)) := by
  refine pi_wk (RZ.pi_zipA hg hm ha hs hpl) fun σ H R ⟨F0, H0, F, ρ, n, ds, n', e, m, k⟩ => ?_
  obtain ⟨xs, n1, e1, e⟩ := M.bind_some e
  obtain ⟨e3, e4⟩ := M.opt_ok e
  simp only at e3 e4
  subst e4
  refine ⟨F0, H0, F, ρ, n, xs, _, e1, m, fun vs F' H' gr s P r => ?_⟩
  unfold zipD at e3
  split at e3
  · rename_i xs ys
    cases e3
    cases r with
    | cons r t =>
      cases t with
      | cons r2 t =>
        cases t
        cases r with
        | @lst a' vs _ h1 q1 =>
        cases r2 with
        | @lst b' ws _ h2 q2 =>
        have hh1 := s.trans vis_same a' _ h1
        have hh2 := s.trans vis_same b' _ h2
        refine ⟨a', b', vs, ws, rfl, .inl ⟨.of hh1, .of hh2, k _ F' H' gr s P (walks_zipG q1 q2 ?_ ?_ ?_)⟩⟩
        · intro F1 H s1 s2 i hi
          have t1 : SqL X.K H a' vs := .of ((s1.trans s2).trans vis_same a' _ h1)
          have t2 : SqL X.K H b' ws := .of ((s1.trans s2).trans vis_same b' _ h2)
          exact ⟨vs, ws, t1, t2, by omega⟩
        · intro F1 H s1 s2 i v w hv hw
          have t1 : SqL X.K H a' vs := .of ((s1.trans s2).trans vis_same a' _ h1)
          have t2 : SqL X.K H b' ws := .of ((s1.trans s2).trans vis_same b' _ h2)
          exact ⟨vs, ws, v, w, t1, t2, hv, hw⟩
        · rintro F1 H s1 s2 i x H' v w hv hw ⟨T, x', y', e1, e2, e3, e4, e5⟩
          have t1 : SqL X.K H a' vs := .of ((s1.trans s2).trans vis_same a' _ h1)
          have t2 : SqL X.K H b' ws := .of ((s1.trans s2).trans vis_same b' _ h2)
          have e4 := e4 vs t1
          have e5 := e5 ws t2
          rw [hv] at e4; rw [hw] at e5
          cases e4; cases e5
          exact ⟨T, e1, e2, e3⟩
  · rename_i xs ys
    cases e3
    cases r with
    | cons r t =>
      cases t with
      | cons r2 t =>
        cases t
        cases r with
        | @tup a' vs _ h1 q1 =>
        cases r2 with
        | @tup b' ws _ h2 q2 =>
        rw [← hK] at h1 h2
        have hh1 := seqT_mono (s.trans vis_same) h1
        have hh2 := seqT_mono (s.trans vis_same) h2
        refine ⟨a', b', vs, ws, rfl, .inr ⟨hh1, hh2, k _ F' H' gr s P (walks_zipG q1 q2 ?_ ?_ ?_)⟩⟩
        · intro F1 H s1 s2 i hi
          exact ⟨vs, ws, seqT_mono ((s1.trans s2).trans vis_same) h1, seqT_mono ((s1.trans s2).trans vis_same) h2, by omega⟩
        · intro F1 H s1 s2 i v w hv hw
          exact ⟨vs, ws, v, w, seqT_mono ((s1.trans s2).trans vis_same) h1, seqT_mono ((s1.trans s2).trans vis_same) h2, hv, hw⟩
        · rintro F1 H s1 s2 i x H' v w hv hw ⟨T, x', y', e1, e2, e3, e4, e5⟩
          have e4 := e4 vs (seqT_mono ((s1.trans s2).trans vis_same) h1)
          have e5 := e5 ws (seqT_mono ((s1.trans s2).trans vis_same) h2)
          rw [hv] at e4; rw [hw] at e5
          cases e4; cases e5
          exact ⟨T, e1, e2, e3⟩
  · cases e3
end

/-! ### statements -/
inductive Out where
  | nx (ρ : Rho) | rt (d : D) | bk (ρ : Rho) | ct (ρ : Rho)
def OutOk (g : Gh) (F0 H0 F : Hp) (n' : Nat) (E : Ends) : Out → Prop
  | .nx ρ' => ∀ F' σ' H', Same F F' → Mdl g F0 H0 F' ρ' n' σ' H' → E.nx σ' H'
  | .bk ρ' => ∀ F' σ' H', Same F F' → Mdl g F0 H0 F' ρ' n' σ' H' → E.bk σ' H'
  | .ct ρ' => ∀ F' σ' H', Same F F' → Mdl g F0 H0 F' ρ' n' σ' H' → E.ct σ' H'
  | .rt d => ∀ v F' H', Grow g F0 H0 F' H' → Same F' (vis g H') → PoolAt g n' H' → Rep g F' v d → E.rt v H'
def RdS (g : Gh) (f : Rho → M Out) : TS := fun E σ H => ∃ F0 H0 F ρ n o n', f ρ n = some (o, n') ∧ Mdl g F0 H0 F ρ n σ H ∧ OutOk g F0 H0 F n' E o
theorem OutOk.mono {g : Gh} {F0 H0 F F1 : Hp} {n' : Nat} {E : Ends} {o : Out} (h : OutOk g F0 H0 F n' E o) (s : Same F F1) : OutOk g F0 H0 F1 n' E o := by
  cases o with
  | nx ρ => exact fun F' σ' H' s' m => h F' σ' H' (s.trans s') m
  | bk ρ => exact fun F' σ' H' s' m => h F' σ' H' (s.trans s') m
  | ct ρ => exact fun F' σ' H' s' m => h F' σ' H' (s.trans s') m
  | rt d => exact h
def xNext : Rho → M Out := fun ρ => pure (.nx ρ)
def xSeq (fa fb : Rho → M Out) : Rho → M Out := fun ρ => do
  let o ← fa ρ
  match o with
  | .nx ρ' => fb ρ'
  | .rt d => pure (.rt d)
  | .bk ρ' => pure (.bk ρ')
  | .ct ρ' => pure (.ct ρ')
def xRet (fe : Rho → M D) : Rho → M Out := fun ρ => do let d ← fe ρ; pure (.rt d)
def xAsg (t : Tgt) (fe : Rho → M D) : Rho → M Out := fun ρ => do let d ← fe ρ; let ρ' ← M.opt (bindT t d ρ); pure (.nx ρ')
def xOwn (i : Nat) (fe : Rho → M D) : Rho → M Out := fun ρ => do let d ← fe ρ; pure (.nx (ρ.set i (.own d)))
def xIf (fc : Rho → M Bool) (fa fb : Rho → M Out) : Rho → M Out := fun ρ => do let c ← fc ρ; if c then fa ρ else fb ρ
def xFrz (i : Nat) : Rho → M Out := fun ρ n => match ρ[i]? with
  | some (.own d) => some (.nx (ρ.set i (.val d)), n)
  | _ => some (.nx ρ, n)
def appR (ρ : Rho) (i : Nat) (d : D) : Option Rho := match ρ[i]? with
  | some (.own (.lst ds)) => if ds.length < 16777216 then some (ρ.set i (.own (.lst (ds ++ [d])))) else none
  | _ => none
def xApp (i : Nat) (fe : Rho → M D) : Rho → M Out := fun ρ => do
  let d ← fe ρ
  let ρ' ← M.opt (appR ρ i d)
  pure (.nx ρ')
def setR (ρ : Rho) (i : Nat) (k d : D) : Option Rho := match ρ[i]?, k with
  | some (.own (.lst ds)), .int k => (ixN ds.length k).map fun j => ρ.set i (.own (.lst (ds.set j d)))
  | _, _ => none
def xSet (i : Nat) (fi fe : Rho → M D) : Rho → M Out := fun ρ => do
  let d ← fe ρ
  let k ← fi ρ
  let ρ' ← M.opt (setR ρ i k d)
  pure (.nx ρ')
def xDrop (fe : Rho → M D) : Rho → M Out := fun ρ => do let _ ← fe ρ; pure (.nx ρ)
def xBreak : Rho → M Out := fun ρ => pure (.bk ρ)
def xCont : Rho → M Out := fun ρ => pure (.ct ρ)
def forGo (fb : D → Rho → M Out) : List D → Rho → M Out
  | [], ρ => pure (.nx ρ)
  | d :: ds, ρ => do
    let o ← fb d ρ
    match o with
    | .nx ρ' => forGo fb ds ρ'
    | .ct ρ' => forGo fb ds ρ'
    | .bk ρ' => pure (.nx ρ')
    | .rt r => pure (.rt r)
def forBody (t : Tgt) (fb : Rho → M Out) (d : D) (ρ : Rho) : M Out := do let ρ' ← M.opt (bindT t d ρ); fb ρ'
def xFor (t : Tgt) (fi : Rho → M (List D)) (fb : Rho → M Out) : Rho → M Out := fun ρ => do let ds ← fi ρ; forGo (forBody t fb) ds ρ
def whileGo (fc : Rho → M Bool) (fb : Rho → M Out) : Nat → Rho → M Out
  | 0, _ => M.fail
  | k + 1, ρ => do
    let c ← fc ρ
    if c then (do
      let o ← fb ρ
      match o with
      | .nx ρ' => whileGo fc fb k ρ'
      | .ct ρ' => whileGo fc fb k ρ'
      | .bk ρ' => pure (.nx ρ')
      | .rt r => pure (.rt r)) else pure (.nx ρ)
def WFUEL : Nat := 1000000000
def xWhile (fc : Rho → M Bool) (fb : Rho → M Out) : Rho → M Out := whileGo fc fb WFUEL
/-- op= on ints -/
def augD : BinO → D → D → Option D
  | .add, .int i, .int j => some (.int (i + j))
  | .sub, .int i, .int j => some (.int (i - j))
  | _, _, _ => none
def xAug (i : Nat) (o : BinO) (fe : Rho → M D) : Rho → M Out := fun ρ => do
  let x ← getV i ρ
  let d ← fe ρ
  let y ← M.opt (augD o x d)
  pure (.nx (ρ.set i (.val y)))

section
variable {g : Gh} {F0 H0 F H : Hp} {ρ : Rho} {n : Nat} {σ : St}
/-- an open list written -/
theorem Mdl.write {i : Nat} {a : Addr} {d : D} {ws : List V} {es : List D} (m : Mdl g F0 H0 F ρ n σ H) (e : ρ[i]? = some (.own d)) (ha : σ[i]? = some (some (.ref a))) (hf : F a = Option.none) (h0 : H0 a = Option.none) (r : RepAll g F ws es) :
    Mdl g F0 H0 F (ρ.set i (.own (.lst es))) n σ (upd H a (.lst ws)) := by
  have ne := H0_ne m.p0 h0
  have nc : g.live = true → a ≠ g.pc := fun hl => (ne hl).2.2
  refine ⟨m.gr.updN h0 nc, m.p0, sub_updN m.sub hf nc, m.pool.updN ne, by simp [m.len], fun j sl e' => ?_, fun j k dj dk b e1 e2 e3 e4 => ?_⟩
  · rw [List.getElem?_set] at e'
    by_cases h : i = j
    · subst h
      rw [if_pos rfl] at e'
      split at e'
      · cases e'
        exact ⟨a, ha, ⟨ws, es, rfl, upd_same, r⟩, hf, h0⟩
      · cases e'
    · rw [if_neg h] at e'
      have q := m.slot j sl e'
      cases sl with
      | un => trivial
      | val d => exact q
      | own d =>
        obtain ⟨b, e1, ⟨vs, ds, e2, e3, e4⟩, f, z⟩ := q
        have nb : b ≠ a := by
          rintro rfl
          exact h (m.dis i j _ _ b e e' ha e1)
        exact ⟨b, e1, ⟨vs, ds, e2, by rw [upd_ne nb]; exact e3, e4⟩, f, z⟩
  · have f1 : ∀ (j : Nat) (dj : D), (ρ.set i (.own (.lst es)))[j]? = some (.own dj) → ∃ dj, ρ[j]? = some (Sl.own dj) := fun j dj q => by
      rw [List.getElem?_set] at q
      by_cases h : i = j
      · subst h; exact ⟨_, e⟩
      · rw [if_neg h] at q; exact ⟨_, q⟩
    obtain ⟨_, q1⟩ := f1 j dj e1
    obtain ⟨_, q2⟩ := f1 k dk e2
    exact m.dis j k _ _ b q1 q2 e3 e4
/-- an open list frozen -/
theorem Mdl.freeze {i : Nat} {d : D} (m : Mdl g F0 H0 F ρ n σ H) (e : ρ[i]? = some (.own d)) : ∃ F', Same F F' ∧ Mdl g F0 H0 F' (ρ.set i (.val d)) n σ H := by
  obtain ⟨a, ha, ⟨vs, ds, rfl, hh, r⟩, hf, h0⟩ := m.slot i _ e
  have ne := H0_ne m.p0 h0
  have nc : g.live = true → a ≠ g.pc := fun hl => (ne hl).2.2
  have sf : Same F (upd F a (.lst vs)) := same_upd hf
  refine ⟨upd F a (.lst vs), sf, ⟨m.gr.f.trans sf, m.gr.h, m.gr.c, fun b z => ?_⟩, m.p0, sub_frz m.sub hh nc, m.pool, by simp [m.len], fun j sl e' => ?_, fun j k dj dk b e1 e2 e3 e4 => ?_⟩
  · rw [upd_ne]
    · exact m.gr.nw b z
    · rintro rfl; rw [h0] at z; cases z
  · rw [List.getElem?_set] at e'
    by_cases h : i = j
    · subst h
      rw [if_pos rfl] at e'
      split at e'
      · cases e'
        exact ⟨_, ha, .lst upd_same (r.mono sf)⟩
      · cases e'
    · rw [if_neg h] at e'
      have q := m.slot j sl e'
      cases sl with
      | un => trivial
      | val d =>
        obtain ⟨v, e1, q⟩ := q
        exact ⟨v, e1, q.mono sf⟩
      | own d =>
        obtain ⟨b, e1, ⟨vs', ds', e2, e3, e4⟩, f, z⟩ := q
        have nb : b ≠ a := by
          rintro rfl
          exact h (m.dis i j _ _ b e e' ha e1)
        exact ⟨b, e1, ⟨vs', ds', e2, e3, e4.mono sf⟩, by rw [upd_ne nb]; exact f, z⟩
  · have f1 : ∀ (j : Nat) (dj : D), (ρ.set i (.val (.lst ds)))[j]? = some (.own dj) → ρ[j]? = some (.own dj) := fun j dj q => by
      rw [List.getElem?_set] at q
      by_cases h : i = j
      · subst h; rw [if_pos rfl] at q; split at q <;> cases q
      · rw [if_neg h] at q; exact q
    exact m.dis j k _ _ b (f1 j dj e1) (f1 k dk e2) e3 e4
/-- a new open list at a name -/
theorem Mdl.setOwn {F' H' : Hp} {n' : Nat} {i : Nat} {a : Addr} {d : D} (m : Mdl g F0 H0 F ρ n σ H) (gr : Grow g F H F' H') (s : Same F' (vis g H')) (P : PoolAt g n' H') (hn : H a = Option.none) (hf : F' a = Option.none) (o : Own g F' H' a d) :
    Mdl g F0 H0 F' (ρ.set i (.own d)) n' (σ.set i (some (.ref a))) H' := by
  have m' := m.grow gr s P
  refine ⟨m'.gr, m'.p0, s, P, by simp [m.len], fun j sl e' => ?_, fun j k dj dk b e1 e2 e3 e4 => ?_⟩
  · rw [List.getElem?_set] at e'
    by_cases h : i = j
    · subst h
      rw [if_pos rfl] at e'
      split at e'
      · rename_i hl
        cases e'
        exact ⟨a, by rw [List.getElem?_set_self (by rw [← m.len]; exact hl)], o, hf, m.gr.fresh hn⟩
      · cases e'
    · rw [if_neg h] at e'
      rw [List.getElem?_set_ne h]
      exact m'.slot j sl e'
  · have old : ∀ (j : Nat) (dj : D), i ≠ j → (ρ.set i (.own d))[j]? = some (.own dj) → (σ.set i (some (.ref a)))[j]? = some (some (.ref b)) → ρ[j]? = some (.own dj) ∧ σ[j]? = some (some (.ref b)) ∧ (H b).isSome = true := fun j dj h q1 q2 => by
      rw [List.getElem?_set, if_neg h] at q1
      rw [List.getElem?_set_ne h] at q2
      obtain ⟨b', z1, z2, z3, z4⟩ := m.slot j _ q1
      rw [q2] at z1; cases z1
      exact ⟨q1, q2, z2.isSome⟩
    have self : ∀ (j : Nat), i = j → (σ.set i (some (.ref a)))[j]? = some (some (.ref b)) → b = a := fun j h q => by
      subst h
      rw [List.getElem?_set] at q
      simp only [if_true] at q
      split at q
      · cases q; rfl
      · cases q
    by_cases h1 : i = j
    · by_cases h2 : i = k
      · omega
      · have := self j h1 e3
        subst this
        obtain ⟨_, _, z⟩ := old k dk h2 e2 e4
        rw [hn] at z; cases z
    · by_cases h2 : i = k
      · have := self k h2 e4
        subst this
        obtain ⟨_, _, z⟩ := old j dj h1 e1 e3
        rw [hn] at z; cases z
      · obtain ⟨z1, z2, _⟩ := old j dj h1 e1 e3
        obtain ⟨z3, z4, _⟩ := old k dk h2 e2 e4
        exact m.dis j k _ _ b z1 z3 z2 z4
end

section
variable {X : Cx} {g : Gh} {st : Stmt} {rest : List Stmt} {e : Expr} {pos : Pos} {fa fb : Rho → M Out} {fe fi : Rho → M D}
theorem xs_nil : PSs X [] (RdS g xNext) := pss_wk pss_nil fun E σ H ⟨F0, H0, F, ρ, n, o, n', e, m, k⟩ => by
  cases e
  exact k F σ H (Same.refl _) m
theorem seq_nx {E : Ends} {F0 H0 F : Hp} {ρ : Rho} {n n' : Nat} {σ : St} {H : Hp} {o : Out} (e : xSeq fa fb ρ n = some (o, n')) (m : Mdl g F0 H0 F ρ n σ H) (k : OutOk g F0 H0 F n' E o) :
    RdS g fa { E with nx := RdS g fb E } σ H := by
  obtain ⟨o1, n1, e1, e⟩ := M.bind_some e
  refine ⟨F0, H0, F, ρ, n, o1, n1, e1, m, ?_⟩
  cases o1 with
  | nx ρ' => exact fun F' σ' H' s m' => ⟨F0, H0, F', ρ', n1, o, n', e, m', k.mono s⟩
  | rt d => cases e; exact k
  | bk ρ' => cases e; exact k
  | ct ρ' => cases e; exact k
theorem xs_cons (h1 : PS X st (RdS g fa)) (h2 : PSs X rest (RdS g fb)) : PSs X (st :: rest) (RdS g (xSeq fa fb)) :=
  pss_wk (pss_cons h1 h2) fun E σ H ⟨F0, H0, F, ρ, n, o, n', e, m, k⟩ => seq_nx e m k
theorem xs_frz {i : Nat} (h2 : PSs X rest (RdS g fb)) : PSs X rest (RdS g (xSeq (xFrz i) fb)) :=
  pss_wk h2 fun E σ H ⟨F0, H0, F, ρ, n, o, n', e, m, k⟩ => by
    obtain ⟨o1, n1, e1, e⟩ := M.bind_some e
    unfold xFrz at e1
    split at e1
    · rename_i d hd
      cases e1
      obtain ⟨F', s, m'⟩ := m.freeze hd
      exact ⟨F0, H0, F', _, n, o, n', e, m', k.mono s⟩
    · cases e1
      exact ⟨F0, H0, F, _, n, o, n', e, m, k⟩
theorem x_pass : PS X (.Pass pos) (RdS g xNext) := ps_wk ps_pass fun E σ H ⟨F0, H0, F, ρ, n, o, n', e, m, k⟩ => by
  cases e
  exact k F σ H (Same.refl _) m
theorem x_break : PS X (.Break pos) (RdS g xBreak) := ps_wk ps_break fun E σ H ⟨F0, H0, F, ρ, n, o, n', e, m, k⟩ => by
  cases e
  exact k F σ H (Same.refl _) m
theorem x_cont : PS X (.Continue pos) (RdS g xCont) := ps_wk ps_continue fun E σ H ⟨F0, H0, F, ρ, n, o, n', e, m, k⟩ => by
  cases e
  exact k F σ H (Same.refl _) m
theorem x_ret (he : PE X e (RdV g fe)) : PS X (.Return (some e) pos) (RdS g (xRet fe)) := ps_wk (ps_ret he) fun E σ H ⟨F0, H0, F, ρ, n, o, n', e, m, k⟩ => by
  obtain ⟨d, n1, e1, e⟩ := M.bind_some e
  cases e
  exact ⟨F0, H0, F, ρ, n, d, _, e1, m, fun v F' H' gr s P r => k v F' H' (m.gr.trans gr) s P r⟩
theorem x_drop (he : PE X e (RdV g fe)) (hs : swapsWith e none pos.line X.env = pure false) : PS X (.Expr e pos) (RdS g (xDrop fe)) := ps_wk (ps_expr he hs) fun E σ H ⟨F0, H0, F, ρ, n, o, n', e, m, k⟩ => by
  obtain ⟨d, n1, e1, e⟩ := M.bind_some e
  cases e
  exact ⟨F0, H0, F, ρ, n, d, _, e1, m, fun v F' H' gr s P r => k F' σ H' gr.f (m.grow gr s P)⟩
theorem x_if {c : Expr} {a b : List Stmt} {fc : Rho → M Bool} (hc : PT X c (RdT g fc)) (ha : PSs X a (RdS g fa)) (hb : PSs X b (RdS g fb)) : PS X (.If c a b pos) (RdS g (xIf fc fa fb)) := ps_wk (ps_if hc ha hb) fun E σ H ⟨F0, H0, F, ρ, n, o, n', e, m, k⟩ => by
  obtain ⟨c, n1, e1, e⟩ := M.bind_some e
  refine ⟨F0, H0, F, ρ, n, c, n1, e1, m, fun F' H' gr s P => ?_⟩
  cases c with
  | true => exact iteT ⟨F0, H0, F', ρ, n1, o, n', e, m.grow gr s P, k.mono gr.f⟩
  | false => exact iteF ⟨F0, H0, F', ρ, n1, o, n', e, m.grow gr s P, k.mono gr.f⟩
theorem tAsg_of {t : Tgt} {E : Ends} {σ : St} {H : Hp} (h : RdS g (xAsg t fe) E σ H) : tAsg (RdV g fe) (gRd g t) E σ H := by
  obtain ⟨F0, H0, F, ρ, n, o, n', e, m, k⟩ := h
  obtain ⟨d, n1, e1, e⟩ := M.bind_some e
  obtain ⟨ρ', n2, e2, e⟩ := M.bind_some e
  cases e
  obtain ⟨e3, e4⟩ := M.opt_ok e2
  simp only at e3 e4
  subst e4
  exact ⟨F0, H0, F, ρ, n, d, _, e1, m, fun v F' H' gr s P r => ⟨F0, H0, F', ρ, _, d, ρ', e3, m.grow gr s P, r, fun σ' _ m' => k F' σ' H' gr.f m'⟩⟩
theorem x_asg {tg : Expr} {t : Tgt} (he : PE X e (RdV g fe)) (hg : PG X tg (gRd g t)) (hs : swapsWithSole [tg] e pos.line X.env = pure false) (hw : swappedStores [tg] e X.env = pure none) (h1 : (assignEach [tg] X.env).map (·.2) = [assign tg X.env]) :
    PS X (.Assign [tg] e pos) (RdS g (xAsg t fe)) := ps_wk (ps_asg he hg hs hw h1) fun E σ H h => tAsg_of h
theorem tOwn_of {i : Nat} {E : Ends} {σ : St} {H : Hp} (h : RdS g (xOwn i fe) E σ H) : tAsg (RdF g fe) (gName i) E σ H := by
  obtain ⟨F0, H0, F, ρ, n, o, n', e, m, k⟩ := h
  obtain ⟨d, n1, e1, e⟩ := M.bind_some e
  cases e
  exact ⟨F0, H0, F, ρ, n, d, _, e1, m, fun a F' H' gr s P hn hf o => k F' _ H' gr.f (m.setOwn gr s P hn hf o)⟩
theorem x_own {i : Nat} {x : Str} {pos' : Pos} (hN : X.N.Nodup) (hi : X.N[i]? = some x) (hx : Loc X.env.scope x) (he : PE X e (RdF g fe)) (hs : swapsWith e (some (.Name x pos')) pos.line X.env = pure false) (hf : X.fn x = true ∨ X.env.scope.names.lookup x = some .local) :
    PS X (.Assign [.Name x pos'] e pos) (RdS g (xOwn i fe)) := ps_wk (ps_set hN hi hx he hs hf) fun E σ H h => tOwn_of h
/-- name = [..], frozen at once -/
theorem tAsgF_of {i : Nat} {E : Ends} {σ : St} {H : Hp} (h : RdS g (xAsg (.nm i) fe) E σ H) : tAsg (RdF g fe) (gName i) E σ H := by
  obtain ⟨F0, H0, F, ρ, n, o, n', e, m, k⟩ := h
  obtain ⟨d, n1, e1, e⟩ := M.bind_some e
  obtain ⟨ρ', n2, e2, e⟩ := M.bind_some e
  cases e
  cases e2
  refine ⟨F0, H0, F, ρ, n, d, _, e1, m, fun a F' H' gr s P hn hf o => ?_⟩
  have m' := m.setOwn (i := i) gr s P hn hf o
  by_cases hi : i < ρ.length
  · obtain ⟨F2, s2, m2⟩ := m'.freeze (i := i) (d := d) (by rw [List.getElem?_set_self hi])
    rw [List.set_set] at m2
    exact k F2 _ H' (gr.f.trans s2) m2
  · have e1 : ∀ x : Sl, ρ.set i x = ρ := fun x => List.set_eq_of_length_le (by omega)
    rw [e1] at m'
    refine k F' _ H' gr.f ?_
    rw [e1]
    exact m'
/-- a comprehension stored by its own statement -/
theorem x_setLc {own' : Bool} {i : Nat} {y : Str} {py : Pos} {elt tg iter : Expr} {ifs : List Expr} {scope : Scope} {own : List (Str × Nat)} {pos' spos : Pos} {t : Tgt} {fit : Rho → M (List D)} {fc : Rho → M Bool} (hc : X.calm = true) (hN : X.N.Nodup) (hy : X.N[i]? = some y) (hyl : X.env.scope.names.lookup y = some .local)
    (hsw : swapsWith (.ListComp elt [⟨tg, iter, ifs, 0⟩] scope pos') (some (.Name y py)) spos.line X.env = pure true) (hi : PI X tg iter (RdI g fit)) (ok : BlkOk X.N X.env.scope scope own)
    (hg : ∀ (s : Shared) (H : Hp) (C : Addr) (cl : List (Str × Addr)) (fp : List Addr), PG (X.blk s H scope (compEnvC scope cl C X.env) fp) tg (gRd g t)) (ht : ∀ (s : Shared) (H : Hp) (C : Addr) (cl : List (Str × Addr)) (fp : List Addr), PTs (X.blk s H scope (compEnvC scope cl C X.env) fp) ifs (RdT g fc))
    (he : ∀ (s : Shared) (H : Hp) (C : Addr) (cl : List (Str × Addr)) (fp : List Addr), PE (X.blk s H scope (compEnvC scope cl C X.env) fp) elt (RdV g fe)) (hs : ∀ x, foldedSetIterable iter X.env x = pure x) (ho : ∀ i ∈ t.slots, i ∈ own.map (·.2)) :
    PS X (.Assign [.Name y py] (.ListComp elt [⟨tg, iter, ifs, 0⟩] scope pos') spos) (RdS g (if own' = true then xOwn i (evLc (own.map (·.2)) t fit fc fe) else xAsg (.nm i) (evLc (own.map (·.2)) t fit fc fe))) := by
  refine ps_wk (ps_setLc hc hN hy hyl hsw hi ok hg ht he hs) fun E σ H h => ?_
  have go : tAsg (RdF g (evLc (own.map (·.2)) t fit fc fe)) (gName i) E σ H := by
    cases own' with
    | true => exact tOwn_of h
    | false => exact tAsgF_of h
  exact tLc_of ho go
theorem rdP_name {i : Nat} {F0 H0 F : Hp} {ρ : Rho} {n : Nat} {σ : St} {H : Hp} {d : D} (m : Mdl g F0 H0 F ρ n σ H) (e : ρ[i]? = some (.own d)) : ∃ a vs ds, σ[i]? = some (some (.ref a)) ∧ d = .lst ds ∧ H a = some (.lst vs) ∧ RepAll g F vs ds ∧ F a = Option.none ∧ H0 a = Option.none := by
  obtain ⟨a, ha, ⟨vs, ds, rfl, hh, r⟩, hf, h0⟩ := m.slot i _ e
  exact ⟨a, vs, ds, ha, rfl, hh, r, hf, h0⟩
/-- behind an expression: the open list as it stood -/
theorem own_after {H0 F F' H H' : Hp} {vs : List V} {ds : List D} {a : Addr} (p0 : P0 g H0) (h0 : H0 a = Option.none) (hh : H a = some (.lst vs)) (r : RepAll g F vs ds) (hf : F a = Option.none) (gr : Grow g F H F' H') : H' a = some (.lst vs) ∧ RepAll g F' vs ds ∧ F' a = Option.none := by
  have ne : g.live = true → a ≠ g.pc := fun hl => (H0_ne p0 h0 hl).2.2
  have q := gr.h a _ (by rw [vis_ne ne]; exact hh)
  rw [vis_ne ne] at q
  exact ⟨q, r.mono gr.f, by rw [gr.nw a (by rw [hh]; rfl)]; exact hf⟩
theorem x_app {i : Nat} {x : Str} {p apos epos : Pos} (hN : X.N[i]? = some x) (hv : Vis X.env.scope x) (hd : (x == ("__debug__" : Str)) = false) (hcd : (x == ("__classdict__" : Str)) = false) (he : PE X e (RdV g fe)) (hst : starEach [e] X.env = (false, eval e X.env) :: starEach [] X.env)
    (ht : attributeBase (.Name x p) "append" X.env (eval (.Name x p) X.env) = eval (.Name x p) X.env) (hs : swapsWith (.Call (.Attribute (.Name x p) "append" apos) [e] [] epos) none pos.line X.env = pure false)
    (hpe : ∀ (to : TE) (t : TA), PE X (.Name x p) to → PA X [e] t → PE X (.Call (.Attribute (.Name x p) "append" apos) [e] [] epos) (tBM X.K "list" rAppend to t)) :
    PS X (.Expr (.Call (.Attribute (.Name x p) "append" apos) [e] [] epos) pos) (RdS g (xApp i fe)) := by
  refine ps_wk (ps_expr (hpe _ _ (pe_var (i := i) hN hv hd hcd) (pa_cons he pa_nil hst)) hs) fun E σ H ⟨F0, H0, F, ρ, n, o, n', e, m, k⟩ => ?_
  obtain ⟨d, n1, e1, e⟩ := M.bind_some e
  obtain ⟨ρ', n2, e6, e⟩ := M.bind_some e
  cases e
  obtain ⟨e7, e8⟩ := M.opt_ok e6
  simp only at e7 e8
  subst e8
  unfold appR at e7
  split at e7
  · rename_i ds hd
    split at e7
    · rename_i hz
      cases e7
      obtain ⟨a, vs, ds', ha, e2, hh, r, hf, h0⟩ := rdP_name m hd
      cases e2
      refine ⟨_, ha, .inl ⟨rfl, vs, .of hh⟩, F0, H0, F, ρ, n, d, _, e1, m, fun v F' H' gr s P rv => ?_⟩
      obtain ⟨q1, q2, q3⟩ := own_after m.p0 h0 hh r hf gr
      refine ⟨a, vs, v, rfl, rfl, q1, by rw [q2.length, ← sz]; exact hz, ?_⟩
      exact k F' σ _ gr.f ((m.grow gr s P).write hd ha q3 h0 (q2.snoc rv))
    · cases e7
  · cases e7
theorem x_set {i : Nat} {x : Str} {p p2 : Pos} {e1 : Expr} (hN : X.N[i]? = some x) (hv : Vis X.env.scope x) (hd : (x == ("__debug__" : Str)) = false) (hcd : (x == ("__classdict__" : Str)) = false) (he : PE X e (RdV g fe)) (hi : PE X e1 (RdV g fi))
    (ha : ∀ v, assign (.Subscript (.Name x p) e1 p2) X.env v = (do
      let ov ← holding [v] (eval (.Name x p) X.env)
      let iv ← holding [v, ov] (eval e1 X.env)
      standAt p2
      holding [v, ov, iv] (setItem ov iv v)
      release [v, ov, iv] []))
    (hs : swapsWithSole [.Subscript (.Name x p) e1 p2] e pos.line X.env = pure false) (hw : swappedStores [.Subscript (.Name x p) e1 p2] e X.env = pure none) (h1 : (assignEach [.Subscript (.Name x p) e1 p2] X.env).map (·.2) = [assign (.Subscript (.Name x p) e1 p2) X.env]) :
    PS X (.Assign [.Subscript (.Name x p) e1 p2] e pos) (RdS g (xSet i fi fe)) := by
  refine ps_wk (ps_asg he (pg_sub (pe_var (i := i) hN hv hd hcd) hi set_list ha) hs hw h1) fun E σ H ⟨F0, H0, F, ρ, n, o, n', e, m, k⟩ => ?_
  obtain ⟨d, n1, e1, e⟩ := M.bind_some e
  obtain ⟨kk, n2, e2, e⟩ := M.bind_some e
  obtain ⟨ρ', n3, e6, e⟩ := M.bind_some e
  cases e
  obtain ⟨e7, e8⟩ := M.opt_ok e6
  simp only at e7 e8
  subst e8
  unfold setR at e7
  split at e7
  · rename_i ds z hd
    simp only [Option.map_eq_some_iff] at e7
    obtain ⟨j, hj, rfl⟩ := e7
    · obtain ⟨a, vs, ds', ha', e3, hh, r, hf, h0⟩ := rdP_name m hd
      cases e3
      refine ⟨F0, H0, F, ρ, n, d, n1, e1, m, fun v F1 H1 g1 s1 P1 r1 => ⟨_, ha', F0, H0, F1, ρ, n1, _, _, e2, m.grow g1 s1 P1, fun w F2 H2 g2 s2 P2 r2 => ?_⟩⟩
      cases r2
      obtain ⟨q1, q2, q3⟩ := own_after m.p0 h0 hh r hf (g1.trans g2)
      refine ⟨a, vs, z, j, rfl, rfl, q1, by rw [q2.length]; exact hj, ?_⟩
      exact k F2 σ _ (g1.trans g2).f (((m.grow g1 s1 P1).grow g2 s2 P2).write hd ha' q3 h0 (RepAll.set (r1.mono g2.f) j q2))
  · cases e7
theorem x_aug {i : Nat} {x : Str} {o : BinO} {pos' : Pos} {ti : TIp} (hN : X.N.Nodup) (hi : X.N[i]? = some x) (hx : Loc X.env.scope x) (he : PE X e (RdV g fe)) (ho : PIp X o.py ti) (hti : ∀ i j z H Q, augD o (.int i) (.int j) = some (.int z) → Q (.int z) H → ti (.int i) (.int j) H Q) (hf : X.fn x = true ∨ X.env.scope.names.lookup x = some .local) :
    PS X (.AugAssign (.Name x pos') o.py e pos) (RdS g (xAug i o fe)) := by
  refine ps_wk (ps_aug hN hi hx he ho hf) fun E σ H ⟨F0, H0, F, ρ, n, o', n', e, m, k⟩ => ?_
  obtain ⟨a, n1, e1, e⟩ := M.bind_some e
  obtain ⟨d, n2, e2, e⟩ := M.bind_some e
  obtain ⟨y, n3, e3, e⟩ := M.bind_some e
  cases e
  obtain ⟨e4, e5⟩ := M.opt_ok e3
  simp only at e4 e5
  subst e5
  unfold getV at e1
  split at e1
  · rename_i d' hs
    cases e1
    obtain ⟨v, hv, r⟩ := m.slot _ _ hs
    refine ⟨v, hv, F0, H0, F, ρ, n, d, _, e2, m, fun w F' H' gr s P rw' => ?_⟩
    obtain ⟨i', j', z, rfl, rfl, rfl⟩ : ∃ i' j' z, a = .int i' ∧ d = .int j' ∧ y = .int z := by
      cases o <;> cases a <;> cases d <;> simp only [augD, reduceCtorEq, Option.some.injEq] at e4 <;> exact ⟨_, _, _, rfl, rfl, e4.symm⟩
    cases r
    cases rw'
    exact hti _ _ _ _ _ e4 (k F' _ H' gr.f ((m.grow gr s P).set i (.int _)))
  · cases e1
theorem ip_augAdd : ∀ i j z (H : Hp) (Q : VK), augD .add (.int i) (.int j) = some (.int z) → Q (.int z) H → ipI (fun i j => i + j) (.int i) (.int j) H Q := fun i j z H Q e q => by
  cases e
  exact ⟨i, j, rfl, rfl, q⟩
theorem ip_augSub : ∀ i j z (H : Hp) (Q : VK), augD .sub (.int i) (.int j) = some (.int z) → Q (.int z) H → ipI (fun i j => i - j) (.int i) (.int j) H Q := fun i j z H Q e q => by
  cases e
  exact ⟨i, j, rfl, rfl, q⟩
theorem x_while {c : Expr} {body : List Stmt} {fc : Rho → M Bool} (hp : PassesOwn (model X.prog X.w) X.A X.env X.xe) (hc : PT X c (RdT g fc)) (hb : PSs X body (RdS g fb)) : PS X (.While c body [] pos) (RdS g (xWhile fc fb)) := by
  refine ps_wk (ps_while hp hc hb) fun E σ H ⟨F0, H0, F, ρ, n, o, n', e, m, k⟩ => ?_
  refine ⟨fun mm σ' H' => ∃ F1 ρ1 n1, whileGo fc fb mm ρ1 n1 = some (o, n') ∧ Same F F1 ∧ Mdl g F0 H0 F1 ρ1 n1 σ' H', ⟨WFUEL, F, ρ, n, e, Same.refl _, m⟩, ?_⟩
  rintro mm σ1 H1 ⟨F1, ρ1, n1, e1, s1, m1⟩
  cases mm with
  | zero => cases e1
  | succ mm =>
    obtain ⟨c, n2, e2, e1⟩ := M.bind_some e1
    refine ⟨F0, H0, F1, ρ1, n1, c, n2, e2, m1, fun F2 H2 g2 s2 P2 => ?_⟩
    have m2 := m1.grow g2 s2 P2
    cases c with
    | false =>
      cases e1
      exact iteF (k F2 σ1 H2 (s1.trans g2.f) m2)
    | true =>
      obtain ⟨o1, n3, e3, e1⟩ := M.bind_some e1
      refine iteT ⟨fun σ' H' => ∃ F1 ρ1 n1, whileGo fc fb mm ρ1 n1 = some (o, n') ∧ Same F F1 ∧ Mdl g F0 H0 F1 ρ1 n1 σ' H', fun σ' H' h => ⟨mm, Nat.lt_succ_self _, h⟩, F0, H0, F2, ρ1, n2, o1, n3, e3, m2, ?_⟩
      cases o1 with
      | nx ρ' => exact fun F' σ' H' s m' => ⟨F', ρ', n3, e1, (s1.trans g2.f).trans s, m'⟩
      | ct ρ' => exact fun F' σ' H' s m' => ⟨F', ρ', n3, e1, (s1.trans g2.f).trans s, m'⟩
      | bk ρ' =>
        cases e1
        exact fun F' σ' H' s m' => k F' σ' H' ((s1.trans g2.f).trans s) m'
      | rt d =>
        cases e1
        exact k
theorem x_for {tg iter : Expr} {body : List Stmt} {t : Tgt} {fit : Rho → M (List D)} (hp : PassesOwn (model X.prog X.w) X.A X.env X.xe) (hc : X.calm = true) (hi : PI X tg iter (RdI g fit)) (hg : PG X tg (gRd g t)) (hb : PSs X body (RdS g fb)) (hs : ∀ x, foldedSetIterable iter X.env x = pure x) :
    PS X (.For tg iter body [] pos) (RdS g (xFor t fit fb)) := by
  refine ps_wk (ps_for hp hc hi hg hb hs) fun E σ H ⟨F0, H0, F, ρ, n, o, n', e, m, k⟩ => ?_
  obtain ⟨ds, n1, e1, e⟩ := M.bind_some e
  refine ⟨F0, H0, F, ρ, n, ds, n1, e1, m, fun J F1 H1 g1 s1 P1 wk => ?_⟩
  refine ⟨fun i mm σ' H' => mm + i = ds.length ∧ ∃ F2 ρ2 n2, forGo (forBody t fb) (ds.drop i) ρ2 n2 = some (o, n') ∧ Same F1 F2 ∧ Mdl g F0 H0 F2 ρ2 n2 σ' H', ⟨ds.length, by omega, F1, ρ, n1, e, Same.refl _, m.grow g1 s1 P1⟩, ?_⟩
  rintro i mm σ2 H2 ⟨hm, F2, ρ2, n2, e2, s2, m2⟩
  by_cases hi' : i < ds.length
  · refine .inr ?_
    obtain ⟨d, hdi⟩ : ∃ d, ds[i]? = some d := ⟨ds[i], by simp [hi']⟩
    have hdrop : ds.drop i = d :: ds.drop (i + 1) := by
      rw [List.drop_eq_getElem_cons hi']
      congr 1
      rw [List.getElem?_eq_getElem hi'] at hdi
      exact Option.some.inj hdi
    rw [hdrop] at e2
    obtain ⟨o1, n3, e3, e4⟩ := M.bind_some e2
    obtain ⟨hgo, hy⟩ := wk.go i d F2 H2 n2 s2 m2.sub m2.pool hdi
    refine ⟨hgo, fun σ' H' => ∃ F3 ρ3, forGo (forBody t fb) (ds.drop (i + 1)) ρ3 n3 = some (o, n') ∧ Same F1 F3 ∧ Mdl g F0 H0 F3 ρ3 n3 σ' H', ?_, ?_⟩
    · rintro σ' H' ⟨F3, ρ3, q1, q2, q3⟩
      exact ⟨mm - 1, by omega, by omega, F3, ρ3, n3, q1, q2, q3⟩
    · intro x H' hx
      obtain ⟨F3, g3, s3, P3, r3⟩ := hy x H' hx
      unfold forBody at e3
      obtain ⟨ρ', n4, e5, e6⟩ := M.bind_some e3
      obtain ⟨e7, e8⟩ := M.opt_ok e5
      simp only at e7 e8
      subst e8
      refine ⟨F0, H0, F3, ρ2, _, d, ρ', e7, m2.grow g3 s3 P3, r3, fun σ' _ m4 => ⟨F0, H0, F3, ρ', _, o1, n3, e6, m4, ?_⟩⟩
      have s13 := s2.trans g3.f
      cases o1 with
      | nx ρ5 => exact fun F' σ' H' s m' => ⟨F', ρ5, e4, s13.trans s, m'⟩
      | ct ρ5 => exact fun F' σ' H' s m' => ⟨F', ρ5, e4, s13.trans s, m'⟩
      | bk ρ5 =>
        cases e4
        exact fun F' σ' H' s m' => k F' σ' H' ((g1.f.trans s13).trans s) m'
      | rt r =>
        cases e4
        exact k
  · refine .inl ?_
    have hi2 : i = ds.length := by omega
    subst hi2
    rw [List.drop_length] at e2
    cases e2
    exact ⟨wk.stop F2 H2 s2 m2.sub, k F2 σ2 H2 (g1.f.trans s2) m2⟩
end
end Ev

set_option Elab.async false
set_option linter.all false
set_option autoImplicit false
set_option maxRecDepth 100000
/-! Ev6: the small syntax, what of the text it stands for, its evaluation. -/
namespace Ev
open PySem PySem.Spec PyProof.Rows L2

inductive Bi where
  | len | all | any | sum | max | min | int | str | tuple
  deriving DecidableEq
inductive Bf where
  | list | sorted
  deriving DecidableEq
mutual
inductive E where
  | var (i : Nat) | pk (i : Nat)
  | int (i : Int) | bool (b : Bool) | none | str (s : Str)
  | glob (x : Str) (d : D)
  | tup (es : Es) | lst (es : Es)
  | bin (o : BinO) (a b : E)
  | neg (a : E) | not (a : E)
  | and (es : Es) | or (es : Es)
  | cmp (o : CmpO) (a b : E)
  | chain (o o' : CmpO) (a b c : E)
  | ite (c a b : E)
  | ix (a b : E)
  | slU (a hi : E) | slL (a lo : E) | slLU (a lo hi : E) | slA (a : E)
  | bi (b : Bi) (es : Es)
  | bf (b : Bf) (es : Es)
  | isi (t : TyK) (a : E)
  | upper (a : E)
  | call (f : Nat) (es : Es)
  | lc (own : List (Str × Nat)) (t : Tgt) (it : It) (cond : Es) (elt : E)
inductive Es where
  | nil | cons (e : E) (es : Es)
inductive It where
  | seq (e : E) | range1 (a : E) | range2 (a b : E) | zip (a b : E)
end
mutual
inductive S where
  | ret (e : E) | asg (t : Tgt) (e : E) | own (i : Nat) (e : E)
  | app (i : Nat) (e : E) | set (i : Nat) (a e : E) | aug (i : Nat) (o : BinO) (e : E) | drop (e : E)
  | ite (c : E) (a b : Ss) | for_ (t : Tgt) (it : It) (b : Ss) | while_ (c : E) (b : Ss)
  | pass | brk | cont
inductive Ss where
  | nil | cons (s : S) (ss : Ss) | frz (i : Nat) (ss : Ss)
end

/-! ### evaluation -/
def Bi.op : Bi → List D → Option D
  | .len => lenD | .all => allD | .any => anyD | .sum => sumD | .max => maxD | .min => minD | .int => intD | .str => strD | .tuple => tupleD
def Bf.op : Bf → List D → Option (List D)
  | .list => listD | .sorted => sortedD
mutual
def ev (C : Nat → List D → M D) : E → Rho → M D
  | .var i => getV i
  | .pk i => getP i
  | .int i => cst (.int i)
  | .bool b => cst (.bool b)
  | .none => cst .none
  | .str s => cst (.str s)
  | .glob _ d => cst d
  | .tup es => evTup (evs C es)
  | .lst es => evLst (evs C es)
  | .bin o a b => evBin o (ev C a) (ev C b)
  | .neg a => evNeg (ev C a)
  | .not a => evNot (ev C a)
  | .and es => evAnds C es
  | .or es => evOrs C es
  | .cmp o a b => evCmp o (ev C a) (ev C b)
  | .chain o o' a b c => evChain o o' (ev C a) (ev C b) (ev C c)
  | .ite c a b => evIf (tst (ev C c)) (ev C a) (ev C b)
  | .ix a b => evIx (ev C a) (ev C b)
  | .slU a h => evSl (ev C a) evNoPart (evPart (ev C h))
  | .slL a l => evSl (ev C a) (evPart (ev C l)) evNoPart
  | .slLU a l h => evSl (ev C a) (evPart (ev C l)) (evPart (ev C h))
  | .slA a => evSl (ev C a) evNoPart evNoPart
  | .bi b es => evB b.op (evs C es)
  | .bf b es => evBL b.op (evs C es)
  | .isi t a => evIsi t (ev C a)
  | .upper a => evUpper (ev C a)
  | .call f es => evC (C f) (evs C es)
  | .lc own t it c e => evLc (own.map (·.2)) t (evI C it) (evCond C c) (ev C e)
def evs (C : Nat → List D → M D) : Es → Rho → M (List D)
  | .nil => evNil
  | .cons e es => evCons (ev C e) (evs C es)
def evAnds (C : Nat → List D → M D) : Es → Rho → M D
  | .nil => fun _ => M.fail
  | .cons e .nil => ev C e
  | .cons e (.cons e' es) => evAnd (ev C e) (evAnds C (.cons e' es))
def evOrs (C : Nat → List D → M D) : Es → Rho → M D
  | .nil => fun _ => M.fail
  | .cons e .nil => ev C e
  | .cons e (.cons e' es) => evOr (ev C e) (evOrs C (.cons e' es))
def evI (C : Nat → List D → M D) : It → Rho → M (List D)
  | .seq e => evItems (ev C e)
  | .range1 a => evIt range1D (evCons (ev C a) evNil)
  | .range2 a b => evIt range2D (evCons (ev C a) (evCons (ev C b) evNil))
  | .zip a b => evIt zipD (evCons (ev C a) (evCons (ev C b) evNil))
def evCond (C : Nat → List D → M D) : Es → Rho → M Bool
  | .nil => evYes
  | .cons e .nil => tst (ev C e)
  | _ => fun _ => M.fail
end
mutual
def xS (C : Nat → List D → M D) : S → Rho → M Out
  | .ret e => xRet (ev C e)
  | .asg t e => xAsg t (ev C e)
  | .own i e => xOwn i (ev C e)
  | .app i e => xApp i (ev C e)
  | .set i a e => xSet i (ev C a) (ev C e)
  | .aug i o e => xAug i o (ev C e)
  | .drop e => xDrop (ev C e)
  | .ite c a b => xIf (tst (ev C c)) (xSs C a) (xSs C b)
  | .for_ t it b => xFor t (evI C it) (xSs C b)
  | .while_ c b => xWhile (tst (ev C c)) (xSs C b)
  | .pass => xNext
  | .brk => xBreak
  | .cont => xCont
def xSs (C : Nat → List D → M D) : Ss → Rho → M Out
  | .nil => xNext
  | .cons s ss => xSeq (xS C s) (xSs C ss)
  | .frz i ss => xSeq (xFrz i) (xSs C ss)
end

/-! ### the text -/
structure Stt where
  fns : List (Nat × Str)
  cns : List (Str × D)
mutual
def sameD : D → D → Bool
  | .none, .none => true
  | .bool a, .bool b => a == b
  | .int a, .int b => decide (a = b)
  | .str a, .str b => decide (a = b)
  | .tup a, .tup b => sameDs a b
  | _, _ => false
def sameDs : List D → List D → Bool
  | [], [] => true
  | x :: xs, y :: ys => sameD x y && sameDs xs ys
  | _, _ => false
end
mutual
theorem sameD_eq : ∀ {x y : D}, sameD x y = true → x = y
  | .none, .none, _ => rfl
  | .bool a, .bool b, h => by simp only [sameD, beq_iff_eq] at h; rw [h]
  | .int a, .int b, h => by simp only [sameD, decide_eq_true_eq] at h; rw [h]
  | .str a, .str b, h => by simp only [sameD, decide_eq_true_eq] at h; rw [h]
  | .tup a, .tup b, h => by simp only [sameD] at h; rw [sameDs_eq h]
theorem sameDs_eq : ∀ {x y : List D}, sameDs x y = true → x = y
  | [], [], _ => rfl
  | x :: xs, y :: ys, h => by simp only [sameDs, Bool.and_eq_true] at h; rw [sameD_eq h.1, sameDs_eq h.2]
end
def visB (sc : Scope) (x : Str) : Bool := match sc.names.lookup x with
  | some .local => true
  | some .cell => true
  | some .free => true
  | _ => false
def locB (sc : Scope) (x : Str) : Bool := match sc.names.lookup x with
  | some .local => true
  | some .cell => true
  | _ => false
def glB (sc : Scope) (x : Str) : Bool := match sc.names.lookup x with
  | some .globalImplicit => true
  | _ => false
def nmB (x : Str) : Bool := !(x == ("__debug__" : Str)) && !(x == ("__classdict__" : Str)) && !(x == ("" : Str))
def Bi.nm : Bi → String
  | .len => "len" | .all => "all" | .any => "any" | .sum => "sum" | .max => "max" | .min => "min" | .int => "int" | .str => "str" | .tuple => "tuple"
def Bf.nm : Bf → String
  | .list => "list" | .sorted => "sorted"
def biNames : List Str := ["len", "all", "any", "sum", "max", "min", "int", "str", "tuple", "list", "sorted", "bool", "isinstance", "range", "zip", "enumerate", "dict"]
def E.isV : E → Bool
  | .pk _ => false
  | _ => true
def E.isF : E → Bool
  | .lst _ => true
  | .bf _ _ => true
  | .lc _ _ _ _ _ => true
  | _ => false
def mT (N : List Str) (sc : Scope) : Tgt → Expr → Bool
  | .nm i, .Name x _ => decide (N[i]? = some x) && locB sc x
  | .tp t u, .Tuple [a, b] _ _ => mT N sc t a && mT N sc u b
  | .tp3 t u v, .Tuple [a, b, c] _ _ => mT N sc t a && mT N sc u b && mT N sc v c
  | _, _ => false
def isTupE : Expr → Bool
  | .Tuple _ _ _ => true
  | _ => false
def isiArgs : List Expr → List Keyword → Option (Expr × Str)
  | [y, .Name z _], [] => some (y, z)
  | _, _ => none
theorem isiArgs_some {as : List Expr} {kws : List Keyword} {y : Expr} {z : Str} (h : isiArgs as kws = some (y, z)) : ∃ p, as = [y, .Name z p] ∧ kws = [] := by
  unfold isiArgs at h
  split at h
  · cases h; exact ⟨_, rfl, rfl⟩
  · cases h
def lcGens : List Comprehension → Option (Expr × Expr × List Expr)
  | [⟨tg, iter, ifs, 0⟩] => some (tg, iter, ifs)
  | _ => none
theorem lcGens_some {gs : List Comprehension} {tg iter : Expr} {ifs : List Expr} (h : lcGens gs = some (tg, iter, ifs)) : gs = [⟨tg, iter, ifs, 0⟩] := by
  unfold lcGens at h
  split at h
  · cases h; rfl
  · cases h
mutual
def mE (St : Stt) (N : List Str) : Scope → E → Expr → Bool
  | sc, .var i, .Name x _ => decide (N[i]? = some x) && visB sc x && nmB x
  | sc, .pk i, .Name x _ => decide (N[i]? = some x) && visB sc x && nmB x
  | _, .int i, .Constant (.int j) _ _ => decide (i = j)
  | _, .bool i, .Constant (.bool j) _ _ => decide (i = j)
  | _, .none, .Constant .none _ _ => true
  | _, .str i, .Constant (.str j) _ _ => decide (i = j)
  | sc, .glob y d, .Name x _ => decide (y = x) && (St.cns.any fun p => decide (p.1 = y) && sameD p.2 d) && glB sc x && nmB x
  | sc, .tup es, .Tuple as _ _ => mEs St N sc es as
  | sc, .lst es, .List as _ => mEs St N sc es as
  | sc, .bin o a b, .BinOp x op y _ => decide (o.py = op) && mE St N sc a x && mE St N sc b y
  | sc, .neg a, .UnaryOp .USub x _ => a.isV && mE St N sc a x
  | sc, .not a, .UnaryOp .Not x _ => a.isV && mE St N sc a x
  | sc, .and es, .BoolOp .And as _ => mEs St N sc es as && !as.isEmpty
  | sc, .or es, .BoolOp .Or as _ => mEs St N sc es as && !as.isEmpty
  | sc, .cmp o a b, .Compare x [op] [y] _ => decide (o.py = op) && mE St N sc a x && mE St N sc b y && !behindInMarks op y
  | sc, .chain o o' a b c, .Compare x [op, op'] [y, z] _ => decide (o.py = op) && decide (o'.py = op') && mE St N sc a x && mE St N sc b y && mE St N sc c z && !lastMarks [op, op'] [y, z]
  | sc, .ite c a b, .IfExp z x y _ => mE St N sc c z && a.isV && mE St N sc a x && b.isV && mE St N sc b y
  | sc, .ix a b, .Subscript x y _ => mE St N sc a x && mE St N sc b y
  | sc, .slU a h, .Subscript x (.Slice .none (some z) .none _) _ => mE St N sc a x && mE St N sc h z
  | sc, .slL a l, .Subscript x (.Slice (some y) .none .none _) _ => mE St N sc a x && mE St N sc l y
  | sc, .slLU a l h, .Subscript x (.Slice (some y) (some z) .none _) _ => mE St N sc a x && mE St N sc l y && mE St N sc h z
  | sc, .slA a, .Subscript x (.Slice .none .none .none _) _ => mE St N sc a x
  | sc, .bi b es, .Call (.Name x _) as [] _ => decide (x = Str.ofString b.nm) && glB sc x && mPs St N sc es as && !as.isEmpty
  | sc, .bf b es, .Call (.Name x _) as [] _ => decide (x = Str.ofString b.nm) && glB sc x && mPs St N sc es as && !as.isEmpty
  | sc, .isi t a, .Call (.Name x _) as kws _ => match isiArgs as kws with
    | some (y, z) => decide (x = Str.ofString "isinstance") && glB sc x && mE St N sc a y && decide (z = Str.ofString t.name) && glB sc z
    | none => false
  | sc, .upper a, .Call (.Attribute x m ap) [] [] cp => decide (m = Str.ofString "upper") && (match x with | .Call _ _ _ _ => false | _ => true) && mE St N sc a x && (ap.endLine == cp.line)
  | sc, .call f es, .Call (.Name x _) as [] _ => decide (St.fns.lookup f = some x) && glB sc x && nmB x && mEs St N sc es as
  | sc, .lc own t it c elt, .ListComp x gens scope _ => match lcGens gens with
    | some (tg, iter, ifs) => blkC N sc scope own && (t.slots.all fun i => (own.map (·.2)).contains i) && mI St N sc it tg iter && mT N scope t tg && mPs St N (relS scope sc) c ifs && decide (ifs.length ≤ 1) && elt.isV && mE St N (relS scope sc) elt x
    | none => false
  | _, _, _ => false
/-- all are values -/
def mEs (St : Stt) (N : List Str) : Scope → Es → List Expr → Bool
  | _, .nil, [] => true
  | sc, .cons e es, a :: as => e.isV && mE St N sc e a && mEs St N sc es as
  | _, _, _ => false
/-- some are looked at -/
def mPs (St : Stt) (N : List Str) : Scope → Es → List Expr → Bool
  | _, .nil, [] => true
  | sc, .cons e es, a :: as => mE St N sc e a && mPs St N sc es as
  | _, _, _ => false
def mI (St : Stt) (N : List Str) : Scope → It → Expr → Expr → Bool
  | sc, .seq e, _, a => e.isV && mE St N sc e a
  | sc, .range1 e, _, .Call (.Name x _) [a] [] _ => decide (x = Str.ofString "range") && glB sc x && e.isV && mE St N sc e a
  | sc, .range2 e e', _, .Call (.Name x _) [a, b] [] _ => decide (x = Str.ofString "range") && glB sc x && e.isV && mE St N sc e a && e'.isV && mE St N sc e' b
  | sc, .zip e e', tg, .Call (.Name x _) [a, b] [] _ => isTupE tg && decide (x = Str.ofString "zip") && glB sc x && e.isV && mE St N sc e a && e'.isV && mE St N sc e' b
  | _, _, _, _ => false
end
/-- a comprehension that is stored by its own statement -/
def lcSwaps (sc : Scope) (y : Str) (py : Pos) : Expr → Bool
  | .ListComp _ _ s p => decide (sc.names.lookup y = some .local) && (py.line == p.line) && !(s.names.any fun (n, k) => n == y && (k == .local || k == .cell))
  | _ => false
def isLC : Expr → Bool
  | .ListComp _ _ _ _ => true
  | .SetComp _ _ _ _ => true
  | .DictComp _ _ _ _ _ => true
  | _ => false
mutual
def mS (St : Stt) (N : List Str) (sc : Scope) : S → Stmt → Bool
  | .ret e, .Return (some a) _ => e.isV && mE St N sc e a
  | .asg t e, .Assign [tg] a _ => mT N sc t tg && e.isV && mE St N sc e a && !(isTupE tg && isTupE a)
  | .own i e, .Assign [.Name x _] a _ => decide (N[i]? = some x) && locB sc x && e.isF && mE St N sc e a
  | .app i e, .Expr (.Call (.Attribute (.Name x _) m ap) [a] [] cp) _ => decide (N[i]? = some x) && visB sc x && nmB x && decide (m = Str.ofString "append") && e.isV && mE St N sc e a && (ap.endLine == cp.line)
  | .set i b e, .Assign [.Subscript (.Name x _) y _] a _ => decide (N[i]? = some x) && visB sc x && nmB x && b.isV && mE St N sc b y && e.isV && mE St N sc e a
  | .aug i o e, .AugAssign (.Name x _) op a _ => decide (N[i]? = some x) && locB sc x && decide (o.py = op) && (decide (o = .add) || decide (o = .sub)) && e.isV && mE St N sc e a
  | .drop e, .Expr a _ => e.isV && mE St N sc e a && !isLC a
  | .ite c a b, .If z x y _ => mE St N sc c z && mSs St N sc a x && mSs St N sc b y
  | .for_ t it b, .For tg iter x [] _ => mT N sc t tg && mI St N sc it tg iter && mSs St N sc b x
  | .while_ c b, .While z x [] _ => mE St N sc c z && mSs St N sc b x
  | .pass, .Pass _ => true
  | .brk, .Break _ => true
  | .cont, .Continue _ => true
  | _, _ => false
def mSs (St : Stt) (N : List Str) (sc : Scope) : Ss → List Stmt → Bool
  | .nil, [] => true
  | .cons s ss, a :: as => mS St N sc s a && mSs St N sc ss as
  | .frz _ ss, as => mSs St N sc ss as
  | _, _ => false
end
end Ev

set_option Elab.async false
set_option linter.all false
set_option autoImplicit false
set_option maxRecDepth 100000
/-! Ev7: the small syntax is sound. -/
namespace Ev
open PySem PySem.Spec PyProof.Rows L2

/-! ### what rfl sees of an expression's form -/
def goodX : Expr → Bool
  | .Starred _ _ => false
  | .Set _ _ _ => false
  | .Slice _ _ _ _ => false
  | _ => true
theorem star_of {e : Expr} {es : List Expr} {env : Env} (h : goodX e = true) : starEach (e :: es) env = (false, eval e env) :: starEach es env := by
  cases e <;> first | rfl | cases h
theorem ix_of {e : Expr} (h : goodX e = true) : PlainIx e := by
  cases e <;> first | exact fun _ _ => rfl | cases h
theorem fold_of {e : Expr} {env : Env} (h : goodX e = true) : ∀ x, foldedSetIterable e env x = pure x := by
  cases e <;> first | exact fun _ => rfl | cases h
theorem swaps_of {e : Expr} {tg : Option Expr} {l : Nat} {env : Env} (h : isLC e = false) : swapsWith e tg l env = pure false := by
  cases e <;> first | rfl | cases h
theorem base_of {e : Expr} {m : Str} {env : Env} (h : (match e with | .Call _ _ _ _ => false | _ => true) = true) : attributeBase e m env (eval e env) = eval e env := by
  cases e <;> first | rfl | cases h
def goodT : Expr → Bool
  | .Name _ _ => true
  | .Tuple _ _ _ => true
  | .Subscript _ _ _ => true
  | _ => false
theorem asgEach_of {e : Expr} {es : List Expr} {env : Env} (h : goodT e = true) : (assignEach (e :: es) env).map (·.2) = assign e env :: (assignEach es env).map (·.2) := by
  cases e <;> first | rfl | cases h
theorem asgEach_cons {e : Expr} {es : List Expr} {env : Env} (h : goodT e = true) : assignEach (e :: es) env = (false, assign e env) :: assignEach es env := by
  cases e <;> first | rfl | cases h
theorem truth_of {e : Expr} {env : Env} (h : (match e with | .UnaryOp .Not _ _ => false | .BoolOp _ _ _ => false | .IfExp _ _ _ _ => false | .Compare _ _ _ _ => false | _ => true) = true) : ∀ whole, isTrue e env whole = (do let v ← whole; standAt e.pos; holding [v] (truthy v)) := by
  cases e <;> first
    | exact fun _ => rfl
    | cases h
    | (rename_i op _ _; cases op <;> first | exact fun _ => rfl | cases h)

section
variable {St : Stt} {N : List Str}
theorem good_of {e : E} {sc : Scope} {a : Expr} (h : mE St N sc e a = true) : goodX a = true := by
  cases a with
  | Starred _ _ => cases e <;> cases h
  | Set _ _ _ => cases e <;> cases h
  | Slice _ _ _ _ => cases e <;> cases h
  | _ => rfl
theorem goodT_of {t : Tgt} {sc : Scope} {a : Expr} (h : mT N sc t a = true) : goodT a = true := by
  cases a <;> first | rfl | (cases t <;> simp [mT] at h)
theorem plain_of : ∀ {es : Es} {sc : Scope} {as : List Expr} {env : Env} {pos : Pos}, mEs St N sc es as = true → (backTo pos (starEach as env)).any (·.1) = false
  | .nil, sc, [], env, pos, h => rfl
  | .cons e es, sc, [], env, pos, h => by simp [mEs] at h
  | .nil, sc, a :: as, env, pos, h => by simp [mEs] at h
  | .cons e es, sc, a :: as, env, pos, h => by
    simp only [mEs, Bool.and_eq_true] at h
    rw [star_of (good_of h.1.2)]
    show (false || (backTo pos (starEach as env)).any (·.1)) = false
    rw [plain_of h.2]
    rfl
theorem plainP_of : ∀ {es : Es} {sc : Scope} {as : List Expr} {env : Env} {pos : Pos}, mPs St N sc es as = true → (backTo pos (starEach as env)).any (·.1) = false
  | .nil, sc, [], env, pos, h => rfl
  | .cons e es, sc, [], env, pos, h => by simp [mPs] at h
  | .nil, sc, a :: as, env, pos, h => by simp [mPs] at h
  | .cons e es, sc, a :: as, env, pos, h => by
    simp only [mPs, Bool.and_eq_true] at h
    rw [star_of (good_of h.1)]
    show (false || (backTo pos (starEach as env)).any (·.1)) = false
    rw [plainP_of h.2]
    rfl
end
theorem vis_of {sc : Scope} {x : Str} (h : visB sc x = true) : Vis sc x := by
  unfold visB at h
  unfold Vis
  split at h
  · exact .inl (by assumption)
  · exact .inr (.inl (by assumption))
  · exact .inr (.inr (by assumption))
  · cases h
theorem gl_of {sc : Scope} {x : Str} (h : glB sc x = true) : sc.names.lookup x = some .globalImplicit := by
  unfold glB at h
  split at h
  · assumption
  · cases h
theorem nm_of {x : Str} (h : nmB x = true) : (x == ("__debug__" : Str)) = false ∧ (x == ("__classdict__" : Str)) = false := by
  simp only [nmB, Bool.and_eq_true, Bool.not_eq_true'] at h
  exact h.1
theorem nm_ne {x : Str} (h : nmB x = true) : x ≠ ("" : Str) := by
  simp only [nmB, Bool.and_eq_true, Bool.not_eq_true'] at h
  exact fun e => by rw [e] at h; simp at h

/-! ### a body's surroundings -/
structure Sg where
  P : Program
  w : World
  K : PySem.W.Frag
  mg : Str → Option Value
  base : Heap
  g : Gh
  k : Nat
  C : Nat → List D → M D
  St : Stt
  hK : g.K = K
  bi : ∀ x ∈ biNames, mg x = none
  cn : ∀ x d, (x, d) ∈ St.cns → ∃ v u, mg x = some u ∧ RelV v u ∧ ∀ F : Hp, Rep g F v d
  fn : ∀ (f : Nat) x, St.fns.lookup f = some x → ∃ a fd ps, mg x = some (.ref a) ∧ PySem.W.keepIn K (.ref a) = true ∧ Binds K fd ps [] ∧ FnOk P w K mg base CX0 k a fd ps (spF g (C f))

structure Good (S : Sg) (N : List Str) (sc0 sc : Scope) (X : Cx) : Prop where
  prog : X.prog = S.P
  w : X.w = S.w
  K : X.K = S.K
  mg : X.mg = S.mg
  base : X.base = S.base
  hN : X.N = N
  nd : N.Nodup
  hsc : X.env.scope = sc
  st : ∀ x, locB sc0 x = true → L2.Loc sc x ∧ (X.fn x = true ∨ sc.names.lookup x = some .local)
  fk : sc.kind = .function
  calm : X.calm = true
  room : Room S.k X.A
  xe : X.xe = fun _ _ => False
section
variable {S : Sg} {N : List Str} {sc0 sc : Scope} {X : Cx}
theorem Good.hK (G : Good S N sc0 sc X) : X.K = S.g.K := G.K.trans S.hK.symm
theorem Good.hu (G : Good S N sc0 sc X) : X.A.units + 66 < cLine := by have := G.room.un; omega
theorem Good.gl (G : Good S N sc0 sc X) {x : Str} (h : glB sc x = true) : Gl X x := by
  show X.env.scope.names.lookup x = _
  rw [G.hsc]
  exact gl_of h
theorem Good.bi (G : Good S N sc0 sc X) {x : Str} (h : x ∈ biNames) : X.mg x = none := by rw [G.mg]; exact S.bi x h
theorem loc_of {sc : Scope} {x : Str} (h : locB sc x = true) : Loc sc x := by
  unfold locB at h
  unfold L2.Loc
  split at h
  · exact .inl (by assumption)
  · exact .inr (by assumption)
  · cases h
theorem Good.blk (G : Good S N sc0 sc X) {scope : Scope} {own : List (Str × Nat)} (hb : blkC N sc scope own = true) (s : Shared) (H : Hp) (C : Addr) (cl : List (Str × Addr)) (fp : List Addr) :
    Good S N scope (relS scope sc) (X.blk s H scope (compEnvC scope cl C X.env) fp) := by
  have hk : scope.kind = .function := (blkOk_by hb).kind
  refine ⟨G.prog, G.w, G.K, G.mg, G.base, G.hN, G.nd, ?_, fun x h => ?_, hk, G.calm, G.room, rfl⟩
  · show relS scope X.env.scope = _
    rw [G.hsc]
  · have q := loc_of h
    rcases q with q | q
    · have := lookup_relS_keep (sc := sc) (by decide) q
      exact ⟨.inl this, .inr this⟩
    · have := lookup_relS_keep (sc := sc) (by decide) q
      refine ⟨.inr this, .inl ?_⟩
      show (scope.names.lookup x == some .cell) = true
      rw [q]; rfl
theorem Good.tgt (G : Good S N sc0 sc X) : ∀ {t : Tgt} {a : Expr}, mT N sc0 t a = true → PG X a (gRd S.g t)
  | .nm i, .Name x p, h => by
    simp only [mT, Bool.and_eq_true, decide_eq_true_eq] at h
    obtain ⟨h1, h2⟩ := G.st x h.2
    exact dg_nm (by rw [G.hN]; exact G.nd) (by rw [G.hN]; exact h.1) (by rw [G.hsc]; exact h1) (by rw [G.hsc]; exact h2)
  | .tp t u, .Tuple [a, b] _ _, h => by
    simp only [mT, Bool.and_eq_true] at h
    have g1 := goodT_of h.1
    have g2 := goodT_of h.2
    exact dg_tp G.hK G.calm (G.tgt h.1) (G.tgt h.2) (asgEach_of g1) (asgEach_of g2) (by rw [asgEach_cons g1, asgEach_cons g2]; rfl) (by rw [asgEach_cons g1, asgEach_cons g2]; rfl)
  | .tp3 t u v, .Tuple [a, b, c] _ _, h => by
    simp only [mT, Bool.and_eq_true] at h
    have g1 := goodT_of h.1.1
    have g2 := goodT_of h.1.2
    have g3 := goodT_of h.2
    exact dg_tp3 G.hK G.calm (G.tgt h.1.1) (G.tgt h.1.2) (G.tgt h.2) (asgEach_of g1) (asgEach_of g2) (asgEach_of g3) (by rw [asgEach_cons g1, asgEach_cons g2, asgEach_cons g3]; rfl) (by rw [asgEach_cons g1, asgEach_cons g2, asgEach_cons g3]; rfl)
end
end Ev

set_option Elab.async false
set_option linter.all false
set_option autoImplicit false
set_option maxRecDepth 100000
set_option maxHeartbeats 4000000
/-! Ev8: the small syntax is sound: expressions. -/
namespace Ev
open PySem PySem.Spec PyProof.Rows L2

theorem dt_ite {X : Cx} {g : Gh} {a b c : Expr} {pos : Pos} {fa fb : Rho → M D} {ft : Rho → M Bool} (hc : PT X c (RdT g ft)) (ha : PT X a (RdT g (tst fa))) (hb : PT X b (RdT g (tst fb))) : PT X (.IfExp c a b pos) (RdT g (tst (evIf ft fa fb))) := by
  refine ⟨fun pins s σ H Q I ⟨F0, H0, F, ρ, n, d, n', e, m, k⟩ => ?_⟩
  obtain ⟨y, e1, e2⟩ := tst_some e
  obtain ⟨x, n1, e3, e4⟩ := M.bind_some e1
  refine isTrue_IfExp (thn (hc.run pins s σ H (fun c H1 => if c = true then RdT g (tst fa) σ H1 Q else RdT g (tst fb) σ H1 Q) I ⟨F0, H0, F, ρ, n, x, n1, e3, m, fun F' H' gr s P => ?_⟩) fun d s1 ⟨H1, I1, q1⟩ => ?_)
  · cases x with
    | true => exact iteT ⟨F0, H0, F', ρ, n1, d, n', tst_of e4 e2, m.grow gr s P, fun F2 H2 g2 s2 P2 => k F2 H2 (gr.trans g2) s2 P2⟩
    | false => exact iteF ⟨F0, H0, F', ρ, n1, d, n', tst_of e4 e2, m.grow gr s P, fun F2 H2 g2 s2 P2 => k F2 H2 (gr.trans g2) s2 P2⟩
  · cases d with
    | true => exact ha.run pins s1 σ H1 Q I1 q1
    | false => exact hb.run pins s1 σ H1 Q I1 q1

/-- an expression's rules -/
structure Snd (X : Cx) (g : Gh) (e : E) (f : Rho → M D) (a : Expr) : Prop where
  v : e.isV = true → PE X a (RdV g f)
  p : PE X a (RdP g f)
  fr : e.isF = true → PE X a (RdF g f)
  t : PT X a (RdT g (tst f))
section
variable {X : Cx} {g : Gh} {e : E} {f : Rho → M D} {a : Expr}
theorem Snd.of (hK : X.K = g.K) (hf : e.isF = false) (h : PE X a (RdV g f)) (ht : ∀ whole, isTrue a X.env whole = (do let v ← whole; standAt a.pos; holding [v] (truthy v))) : Snd X g e f a :=
  ⟨fun _ => h, peekV h, fun z => (by rw [hf] at z; cases z), dt_truth hK (peekV h) ht⟩
theorem Snd.ofT (hf : e.isF = false) (h : PE X a (RdV g f)) (ht : PT X a (RdT g (tst f))) : Snd X g e f a :=
  ⟨fun _ => h, peekV h, fun z => (by rw [hf] at z; cases z), ht⟩
theorem Snd.ofF (hK : X.K = g.K) (h : PE X a (RdF g f)) (ht : ∀ whole, isTrue a X.env whole = (do let v ← whole; standAt a.pos; holding [v] (truthy v))) : Snd X g e f a :=
  ⟨fun _ => frzF h, peekV (frzF h), fun _ => h, dt_truth hK (peekV (frzF h)) ht⟩
end
theorem bi_sound {X : Cx} {g : Gh} {es : List Expr} {e : Expr} {fr : Rho → M (List D)} {x : Str} {p pos : Pos} (hK : X.K = g.K) (hc : X.calm = true) (b : Bi) (hx : x = Str.ofString b.nm) (hg : Gl X x) (hm : X.mg x = none) (ha : PA X (e :: es) (RdAP g fr))
    (he : starEach (e :: es) X.env = (false, eval e X.env) :: starEach es X.env) (hpl : (backTo pos (starEach es X.env)).any (·.1) = false) : PE X (.Call (.Name x p) (e :: es) [] pos) (RdV g (evB b.op fr)) := by
  subst hx
  cases b
  · exact de_callB (id := "len") (okc_len hK) call_len hg hm (by decide +kernel) ha (by decide +kernel) (by decide +kernel) he hpl
  · exact de_callB (id := "all") okc_all (cr_all hc) hg hm (by decide +kernel) ha (by decide +kernel) (by decide +kernel) he hpl
  · exact de_callB (id := "any") okc_any (cr_any hc) hg hm (by decide +kernel) ha (by decide +kernel) (by decide +kernel) he hpl
  · exact de_callB (id := "sum") okc_sum (cr_sum hc) hg hm (by decide +kernel) ha (by decide +kernel) (by decide +kernel) he hpl
  · exact de_callB (id := "max") okc_max ((call_max2 hc).or (cr_max hc)) hg hm (by decide +kernel) ha (by decide +kernel) (by decide +kernel) he hpl
  · exact de_callB (id := "min") okc_min ((call_min2 hc).or (cr_min hc)) hg hm (by decide +kernel) ha (by decide +kernel) (by decide +kernel) he hpl
  · exact de_callTy (T := "int") okc_int call_int1 hg hm (by decide +kernel) ha (by decide +kernel) (by decide +kernel) he hpl
  · exact de_callTy (T := "str") okc_str call_str_int hg hm (by decide +kernel) ha (by decide +kernel) (by decide +kernel) he hpl
  · exact de_callTy (T := "tuple") (okc_tuple hK) call_tuple_of hg hm (by decide +kernel) ha (by decide +kernel) (by decide +kernel) he hpl
theorem bf_sound {X : Cx} {g : Gh} {es : List Expr} {e : Expr} {fr : Rho → M (List D)} {x : Str} {p pos : Pos} (hK : X.K = g.K) (hu : X.A.units + 66 < cLine) (b : Bf) (hx : x = Str.ofString b.nm) (hg : Gl X x) (hm : X.mg x = none) (ha : PA X (e :: es) (RdAP g fr))
    (he : starEach (e :: es) X.env = (false, eval e X.env) :: starEach es X.env) (hpl : (backTo pos (starEach es X.env)).any (·.1) = false) : PE X (.Call (.Name x p) (e :: es) [] pos) (RdF g (evBL b.op fr)) := by
  subst hx
  cases b
  · exact df_callTy (T := "list") (okc_list hK) call_list_of hg hm (by decide +kernel) ha (by decide +kernel) (by decide +kernel) he hpl
  · exact df_callB (id := "sorted") okc_sorted (cr_sortD hK hu) hg hm (by decide +kernel) ha (by decide +kernel) (by decide +kernel) he hpl
theorem bi_mem (b : Bi) : Str.ofString b.nm ∈ biNames := by cases b <;> decide +kernel
theorem bf_mem (b : Bf) : Str.ofString b.nm ∈ biNames := by cases b <;> decide +kernel

section
variable (S : Sg) (N : List Str)
mutual
theorem sE : ∀ (e : E) {sc0 sc : Scope} {a : Expr} {X : Cx}, Good S N sc0 sc X → mE S.St N sc e a = true → Snd X S.g e (ev S.C e) a
  | .var i, sc0, sc, a, X, G, h => by
    cases a with
    | Name x p =>
      simp only [mE, Bool.and_eq_true, decide_eq_true_eq] at h
      have hn := nm_of h.2
      exact .of G.hK rfl (de_var (by rw [G.hN]; exact h.1.1) (by rw [G.hsc]; exact vis_of h.1.2) hn.1 hn.2) (fun _ => rfl)
    | _ => cases h
  | .pk i, sc0, sc, a, X, G, h => by
    cases a with
    | Name x p =>
      simp only [mE, Bool.and_eq_true, decide_eq_true_eq] at h
      have hn := nm_of h.2
      have q : PE X (.Name x p) (RdP S.g (getP i)) := dp_var (by rw [G.hN]; exact h.1.1) (by rw [G.hsc]; exact vis_of h.1.2) hn.1 hn.2
      exact ⟨fun z => (by cases z), q, fun z => (by cases z), dt_truth G.hK q (fun _ => rfl)⟩
    | _ => cases h
  | .int i, sc0, sc, a, X, G, h => by
    cases a with
    | Constant c _ _ =>
      cases c with
      | int j =>
        simp only [mE, decide_eq_true_eq] at h
        subst h
        exact .of G.hK rfl de_int (fun _ => rfl)
      | _ => cases h
    | _ => cases h
  | .bool i, sc0, sc, a, X, G, h => by
    cases a with
    | Constant c _ _ =>
      cases c with
      | bool j =>
        simp only [mE, decide_eq_true_eq] at h
        subst h
        exact .of G.hK rfl de_bool (fun _ => rfl)
      | _ => cases h
    | _ => cases h
  | .none, sc0, sc, a, X, G, h => by
    cases a with
    | Constant c _ _ =>
      cases c with
      | none => exact .of G.hK rfl de_none (fun _ => rfl)
      | _ => cases h
    | _ => cases h
  | .str i, sc0, sc, a, X, G, h => by
    cases a with
    | Constant c _ _ =>
      cases c with
      | str j =>
        simp only [mE, decide_eq_true_eq] at h
        subst h
        exact .of G.hK rfl de_str (fun _ => rfl)
      | _ => cases h
    | _ => cases h
  | .glob y d, sc0, sc, a, X, G, h => by
    cases a with
    | Name x p =>
      simp only [mE, Bool.and_eq_true, decide_eq_true_eq] at h
      have hn := nm_of h.2
      obtain ⟨⟨⟨rfl, ha⟩, hg⟩, _⟩ := h
      obtain ⟨⟨x', d'⟩, hm, hq⟩ := List.any_eq_true.mp ha
      simp only [Bool.and_eq_true, decide_eq_true_eq] at hq
      obtain ⟨rfl, hd⟩ := hq
      obtain rfl := sameD_eq hd
      obtain ⟨v, u, h1, h2, h3⟩ := S.cn x' d' hm
      exact .of G.hK rfl (de_glob (G.gl hg) (by rw [G.mg]; exact h1) h2 h3 hn.1) (fun _ => rfl)
    | _ => cases h
  | .tup es, sc0, sc, a, X, G, h => by
    cases a with
    | Tuple as _ _ => exact .of G.hK rfl (de_tup (sEs es G h)) (fun _ => rfl)
    | _ => cases h
  | .lst es, sc0, sc, a, X, G, h => by
    cases a with
    | List as _ => exact .ofF G.hK (df_lst (sEs es G h)) (fun _ => rfl)
    | _ => cases h
  | .bin o x y, sc0, sc, a, X, G, h => by
    cases a with
    | BinOp a1 op a2 _ =>
      simp only [mE, Bool.and_eq_true, decide_eq_true_eq] at h
      obtain ⟨⟨rfl, h1⟩, h2⟩ := h
      exact .of G.hK rfl (de_binO G.hK o (sE x G h1).p (sE y G h2).p) (fun _ => rfl)
    | _ => cases h
  | .neg x, sc0, sc, a, X, G, h => by
    cases a with
    | UnaryOp op a1 _ =>
      cases op with
      | USub =>
        simp only [mE, Bool.and_eq_true] at h
        exact .of G.hK rfl (de_neg ((sE x G h.2).v h.1)) (fun _ => rfl)
      | _ => cases h
    | _ => cases h
  | .not x, sc0, sc, a, X, G, h => by
    cases a with
    | UnaryOp op a1 _ =>
      cases op with
      | Not =>
        simp only [mE, Bool.and_eq_true] at h
        exact .ofT rfl (de_not ((sE x G h.2).v h.1)) (dt_not (sE x G h.2).t)
      | _ => cases h
    | _ => cases h
  | .and es, sc0, sc, a, X, G, h => by
    cases a with
    | BoolOp op as pos =>
      cases op with
      | And =>
        simp only [mE, Bool.and_eq_true] at h
        obtain ⟨q1, q2⟩ := sAnd es G h.1 (by simpa using h.2) pos
        exact .ofT rfl q1 q2.pt
      | _ => cases h
    | _ => cases h
  | .or es, sc0, sc, a, X, G, h => by
    cases a with
    | BoolOp op as pos =>
      cases op with
      | Or =>
        simp only [mE, Bool.and_eq_true] at h
        obtain ⟨q1, q2⟩ := sOr es G h.1 (by simpa using h.2) pos
        exact .ofT rfl q1 q2.pt
      | _ => cases h
    | _ => cases h
  | .cmp o x y, sc0, sc, a, X, G, h => by
    cases a with
    | Compare a1 ops bs pos =>
      match ops, bs, h with
      | [op], [b], h =>
        simp only [mE, Bool.and_eq_true, decide_eq_true_eq, Bool.not_eq_true'] at h
        obtain ⟨⟨⟨rfl, h1⟩, h2⟩, h3⟩ := h
        have hu : X.A.units + 65 < cLine := by have := G.hu; omega
        exact .ofT rfl (de_cmp G.hK hu o (sE x G h1).p (sE y G h2).p h3) (dt_cmp G.hK hu o (sE x G h1).p (sE y G h2).p h3)
      | [], _, h => cases h
      | [_], [], h => cases h
      | [_], _ :: _ :: _, h => cases h
      | _ :: _ :: _, _, h => cases h
    | _ => cases h
  | .chain o o' x y z, sc0, sc, a, X, G, h => by
    cases a with
    | Compare a1 ops bs pos =>
      match ops, bs, h with
      | [op, op'], [b, c], h =>
        simp only [mE, Bool.and_eq_true, decide_eq_true_eq, Bool.not_eq_true'] at h
        obtain ⟨⟨⟨⟨⟨rfl, rfl⟩, h1⟩, h2⟩, h3⟩, h4⟩ := h
        have hu : X.A.units + 65 < cLine := by have := G.hu; omega
        exact .ofT rfl (de_chain G.hK hu o o' (sE x G h1).p (sE y G h2).p (sE z G h3).p h4) (dt_chain G.hK hu o o' (sE x G h1).p (sE y G h2).p (sE z G h3).p h4)
      | [], _, h => cases h
      | [_], _, h => cases h
      | [_, _], [], h => cases h
      | [_, _], [_], h => cases h
      | [_, _], _ :: _ :: _ :: _, h => cases h
      | _ :: _ :: _ :: _, _, h => cases h
    | _ => cases h
  | .ite c x y, sc0, sc, a, X, G, h => by
    cases a with
    | IfExp a0 a1 a2 _ =>
      simp only [mE, Bool.and_eq_true] at h
      obtain ⟨⟨⟨⟨h0, v1⟩, h1⟩, v2⟩, h2⟩ := h
      exact .ofT rfl (de_if (sE c G h0).t ((sE x G h1).v v1) ((sE y G h2).v v2)) (dt_ite (sE c G h0).t (sE x G h1).t (sE y G h2).t)
    | _ => cases h
  | .ix x y, sc0, sc, a, X, G, h => by
    cases a with
    | Subscript a1 a2 _ =>
      simp only [mE, Bool.and_eq_true] at h
      exact .of G.hK rfl (de_ix G.hK (sE x G h.1).p (sE y G h.2).p (ix_of (good_of h.2))) (fun _ => rfl)
    | _ => cases h
  | .slU x hi, sc0, sc, a, X, G, h => by
    cases a with
    | Subscript a1 a2 _ =>
      cases a2 with
      | Slice l u st _ =>
        match l, u, st, h with
        | .none, some z, .none, h =>
          simp only [mE, Bool.and_eq_true] at h
          exact .of G.hK rfl (de_sl G.hK (sE x G h.1).p do_none (do_some (sE hi G h.2).p)) (fun _ => rfl)
        | .none, .none, _, h => cases h
        | some _, _, _, h => cases h
        | .none, some _, some _, h => cases h
      | _ => cases h
    | _ => cases h
  | .slL x lo, sc0, sc, a, X, G, h => by
    cases a with
    | Subscript a1 a2 _ =>
      cases a2 with
      | Slice l u st _ =>
        match l, u, st, h with
        | some z, .none, .none, h =>
          simp only [mE, Bool.and_eq_true] at h
          exact .of G.hK rfl (de_sl G.hK (sE x G h.1).p (do_some (sE lo G h.2).p) do_none) (fun _ => rfl)
        | .none, _, _, h => cases h
        | some _, some _, _, h => cases h
        | some _, .none, some _, h => cases h
      | _ => cases h
    | _ => cases h
  | .slLU x lo hi, sc0, sc, a, X, G, h => by
    cases a with
    | Subscript a1 a2 _ =>
      cases a2 with
      | Slice l u st _ =>
        match l, u, st, h with
        | some y, some z, .none, h =>
          simp only [mE, Bool.and_eq_true] at h
          exact .of G.hK rfl (de_sl G.hK (sE x G h.1.1).p (do_some (sE lo G h.1.2).p) (do_some (sE hi G h.2).p)) (fun _ => rfl)
        | .none, _, _, h => cases h
        | some _, .none, _, h => cases h
        | some _, some _, some _, h => cases h
      | _ => cases h
    | _ => cases h
  | .slA x, sc0, sc, a, X, G, h => by
    cases a with
    | Subscript a1 a2 _ =>
      cases a2 with
      | Slice l u st _ =>
        match l, u, st, h with
        | .none, .none, .none, h => exact .of G.hK rfl (de_sl G.hK (sE x G h).p do_none do_none) (fun _ => rfl)
        | some _, _, _, h => cases h
        | .none, some _, _, h => cases h
        | .none, .none, some _, h => cases h
      | _ => cases h
    | _ => cases h
  | .bi b es, sc0, sc, a, X, G, h => by
    cases a with
    | Call fn as kws pos =>
      cases fn with
      | Name x p =>
        match as, kws, h with
        | a :: as, [], h =>
          simp only [mE, Bool.and_eq_true, decide_eq_true_eq] at h
          obtain ⟨⟨⟨hx, hg⟩, hp⟩, _⟩ := h
          have hm : X.mg x = none := G.bi (by rw [hx]; exact bi_mem b)
          have q := sPs es G hp
          obtain ⟨e1, es1, rfl⟩ : ∃ e1 es1, es = .cons e1 es1 := by
            cases es with
            | nil => simp [mPs] at hp
            | cons e1 es1 => exact ⟨e1, es1, rfl⟩
          have hp' := hp
          simp only [mPs, Bool.and_eq_true] at hp'
          exact .of G.hK rfl (bi_sound G.hK G.calm b hx (G.gl hg) hm q (star_of (good_of hp'.1)) (plainP_of hp'.2)) (fun _ => rfl)
        | [], [], h => simp [mE] at h
        | [], _ :: _, h => cases h
        | _ :: _, _ :: _, h => cases h
      | _ => cases h
    | _ => cases h
  | .bf b es, sc0, sc, a, X, G, h => by
    cases a with
    | Call fn as kws pos =>
      cases fn with
      | Name x p =>
        match as, kws, h with
        | a :: as, [], h =>
          simp only [mE, Bool.and_eq_true, decide_eq_true_eq] at h
          obtain ⟨⟨⟨hx, hg⟩, hp⟩, _⟩ := h
          have hm : X.mg x = none := G.bi (by rw [hx]; exact bf_mem b)
          have q := sPs es G hp
          obtain ⟨e1, es1, rfl⟩ : ∃ e1 es1, es = .cons e1 es1 := by
            cases es with
            | nil => simp [mPs] at hp
            | cons e1 es1 => exact ⟨e1, es1, rfl⟩
          have hp' := hp
          simp only [mPs, Bool.and_eq_true] at hp'
          exact .ofF G.hK (bf_sound G.hK G.hu b hx (G.gl hg) hm q (star_of (good_of hp'.1)) (plainP_of hp'.2)) (fun _ => rfl)
        | [], [], h => simp [mE] at h
        | [], _ :: _, h => cases h
        | _ :: _, _ :: _, h => cases h
      | _ => cases h
    | _ => cases h
  | .isi t x, sc0, sc, a, X, G, h => by
    cases a with
    | Call fn as kws pos =>
      cases fn with
      | Name nx p =>
        simp only [mE] at h
        split at h
        · rename_i y z hy
          obtain ⟨p', rfl, rfl⟩ := isiArgs_some hy
          simp only [Bool.and_eq_true, decide_eq_true_eq] at h
          obtain ⟨⟨⟨⟨rfl, hg⟩, h1⟩, rfl⟩, hz⟩ := h
          have hm : X.mg "isinstance" = none := G.bi (by decide +kernel)
          have hz' : X.mg (Str.ofString t.name) = none := G.bi (by cases t <;> decide +kernel)
          exact .of G.hK rfl (de_isi G.hK t (G.gl hg) hm (G.gl hz) hz' (by cases t <;> decide +kernel) (sE x G h1).p (star_of (good_of h1)) (by cases t <;> decide +kernel) (by cases t <;> decide +kernel)) (fun _ => rfl)
        · cases h
      | _ => cases h
    | _ => cases h
  | .upper x, sc0, sc, a, X, G, h => by
    cases a with
    | Call fn as kws cp =>
      cases fn with
      | Attribute y m ap =>
        match as, kws, h with
        | [], [], h =>
          simp only [mE, Bool.and_eq_true, decide_eq_true_eq] at h
          obtain ⟨⟨⟨rfl, hb⟩, h1⟩, hl⟩ := h
          exact .of G.hK rfl (de_upper (sE x G h1).p (base_of hb) hl) (fun _ => rfl)
        | _ :: _, _, h => cases h
        | [], _ :: _, h => cases h
      | _ => cases h
    | _ => cases h
  | .call f es, sc0, sc, a, X, G, h => by
    cases a with
    | Call fn as kws pos =>
      cases fn with
      | Name x p =>
        match as, kws, h with
        | as, [], h =>
          simp only [mE, Bool.and_eq_true, decide_eq_true_eq] at h
          obtain ⟨⟨⟨hf, hg⟩, hn⟩, hp⟩ := h
          obtain ⟨ad, fd, ps, h1, h2, h3, h4⟩ := S.fn f x hf
          have hn' := nm_of hn
          have F4 : FnOk X.prog X.w X.K X.mg X.base CX0 S.k ad fd ps (spF S.g (S.C f)) := by rw [G.prog, G.w, G.K, G.mg, G.base]; exact h4
          have q := sEs es G hp
          match es, as, hp, q with
          | .nil, [], hp, q =>
            exact .of G.hK rfl (de_call0 F4 G.room (G.gl hg) (by rw [G.mg]; exact h1) (by rw [G.K]; exact h2) (by rw [G.K]; exact h3) hn'.1) (fun _ => rfl)
          | .cons e1 es1, a1 :: as1, hp, q =>
            have hp' := hp
            simp only [mEs, Bool.and_eq_true] at hp'
            exact .of G.hK rfl (de_call F4 G.room (G.gl hg) (by rw [G.mg]; exact h1) (by rw [G.K]; exact h2) (by rw [G.K]; exact h3) q hn'.1 (star_of (good_of hp'.1.2)) (plain_of hp'.2)) (fun _ => rfl)
          | .nil, _ :: _, hp, q => simp [mEs] at hp
          | .cons _ _, [], hp, q => simp [mEs] at hp
        | _, _ :: _, h => cases h
      | _ => cases h
    | _ => cases h
  | .lc own t it c elt, sc0, sc, a, X, G, h => by
    cases a with
    | ListComp x gens scope pos =>
      simp only [mE] at h
      split at h
      · rename_i tg iter ifs hq
        obtain rfl := lcGens_some hq
        simp only [Bool.and_eq_true, decide_eq_true_eq] at h
        obtain ⟨⟨⟨⟨⟨⟨⟨hb, ho⟩, hi⟩, ht⟩, hc⟩, hl⟩, hv⟩, he⟩ := h
        refine .ofF G.hK (df_lc G.calm (by rw [G.hN]; exact G.nd) (sI it G hi) (by rw [G.hN, G.hsc]; exact blkOk_by hb) (fun s H C cl fp => (G.blk hb s H C cl fp).tgt ht) (fun s H C cl fp => sCond c (G.blk hb s H C cl fp) hc hl)
          (fun s H C cl fp => (sE elt (G.blk hb s H C cl fp) he).v hv) (sIf it G hi) ?_) (fun _ => rfl)
        intro i hi'
        have := List.all_eq_true.mp ho i hi'
        simpa using this
      · cases h
    | _ => cases h
theorem sEs : ∀ (es : Es) {sc0 sc : Scope} {as : List Expr} {X : Cx}, Good S N sc0 sc X → mEs S.St N sc es as = true → PA X as (RdA S.g (evs S.C es))
  | .nil, sc0, sc, as, X, G, h => by
    cases as with
    | nil => exact da_nil
    | cons _ _ => cases h
  | .cons e es, sc0, sc, as, X, G, h => by
    cases as with
    | nil => cases h
    | cons a as =>
      simp only [mEs, Bool.and_eq_true] at h
      exact da_cons ((sE e G h.1.2).v h.1.1) (sEs es G h.2) (star_of (good_of h.1.2))
theorem sPs : ∀ (es : Es) {sc0 sc : Scope} {as : List Expr} {X : Cx}, Good S N sc0 sc X → mPs S.St N sc es as = true → PA X as (RdAP S.g (evs S.C es))
  | .nil, sc0, sc, as, X, G, h => by
    cases as with
    | nil => exact dap_nil
    | cons _ _ => cases h
  | .cons e es, sc0, sc, as, X, G, h => by
    cases as with
    | nil => cases h
    | cons a as =>
      simp only [mPs, Bool.and_eq_true] at h
      exact dap_cons (sE e G h.1).p (sPs es G h.2) (star_of (good_of h.1))
theorem sAnd : ∀ (es : Es) {sc0 sc : Scope} {as : List Expr} {X : Cx}, Good S N sc0 sc X → mEs S.St N sc es as = true → as ≠ [] → ∀ pos, PE X (.BoolOp .And as pos) (RdV S.g (evAnds S.C es)) ∧ PW X (.BoolOp .And as pos) (RdT S.g (tst (evAnds S.C es)))
  | .nil, sc0, sc, as, X, G, h, hne, pos => by
    cases as with
    | nil => exact absurd rfl hne
    | cons _ _ => cases h
  | .cons e es, sc0, sc, as, X, G, h, hne, pos => by
    cases as with
    | nil => exact absurd rfl hne
    | cons a as =>
      simp only [mEs, Bool.and_eq_true] at h
      have q := sE e G h.1.2
      have q' := fun hn => sAnd es G h.2 hn pos
      cases es with
      | nil =>
        cases as with
        | nil => exact ⟨pe_one (q.v h.1.1), pw_and1 q.t⟩
        | cons _ _ => cases h.2
      | cons e' es =>
        cases as with
        | nil => cases h.2
        | cons a' as =>
          obtain ⟨q1, q2⟩ := q' (by simp)
          exact ⟨de_and (q.v h.1.1) q1, dw_and q.t q2⟩
theorem sOr : ∀ (es : Es) {sc0 sc : Scope} {as : List Expr} {X : Cx}, Good S N sc0 sc X → mEs S.St N sc es as = true → as ≠ [] → ∀ pos, PE X (.BoolOp .Or as pos) (RdV S.g (evOrs S.C es)) ∧ PW X (.BoolOp .Or as pos) (RdT S.g (tst (evOrs S.C es)))
  | .nil, sc0, sc, as, X, G, h, hne, pos => by
    cases as with
    | nil => exact absurd rfl hne
    | cons _ _ => cases h
  | .cons e es, sc0, sc, as, X, G, h, hne, pos => by
    cases as with
    | nil => exact absurd rfl hne
    | cons a as =>
      simp only [mEs, Bool.and_eq_true] at h
      have q := sE e G h.1.2
      have q' := fun hn => sOr es G h.2 hn pos
      cases es with
      | nil =>
        cases as with
        | nil => exact ⟨pe_one (q.v h.1.1), pw_or1 q.t⟩
        | cons _ _ => cases h.2
      | cons e' es =>
        cases as with
        | nil => cases h.2
        | cons a' as =>
          obtain ⟨q1, q2⟩ := q' (by simp)
          exact ⟨de_or (q.v h.1.1) q1, dw_or q.t q2⟩
theorem sI : ∀ (it : It) {sc0 sc : Scope} {tg a : Expr} {X : Cx}, Good S N sc0 sc X → mI S.St N sc it tg a = true → PI X tg a (RdI S.g (evI S.C it))
  | .seq e, sc0, sc, tg, a, X, G, h => by
    simp only [mI, Bool.and_eq_true] at h
    exact di_seq G.hK ((sE e G h.2).v h.1)
  | .range1 e, sc0, sc, tg, a, X, G, h => by
    cases a with
    | Call fn as kws pos =>
      cases fn with
      | Name x p =>
        match as, kws, h with
        | [a], [], h =>
          simp only [mI, Bool.and_eq_true, decide_eq_true_eq] at h
          obtain ⟨⟨⟨rfl, hg⟩, hv⟩, he⟩ := h
          have hs := star_of (es := []) (env := X.env) (good_of he)
          exact di_range1 (G.gl hg) (G.bi (by decide +kernel)) (da_cons ((sE e G he).v hv) da_nil hs) hs
        | [], _, h => cases h
        | _ :: _ :: _, _, h => cases h
        | [_], _ :: _, h => cases h
      | _ => cases h
    | _ => cases h
  | .range2 e e', sc0, sc, tg, a, X, G, h => by
    cases a with
    | Call fn as kws pos =>
      cases fn with
      | Name x p =>
        match as, kws, h with
        | [a, b], [], h =>
          simp only [mI, Bool.and_eq_true, decide_eq_true_eq] at h
          obtain ⟨⟨⟨⟨⟨rfl, hg⟩, hv⟩, he⟩, hv'⟩, he'⟩ := h
          have hs := star_of (es := [b]) (env := X.env) (good_of he)
          have hs' := star_of (es := []) (env := X.env) (good_of he')
          exact di_range2 (G.gl hg) (G.bi (by decide +kernel)) (da_cons ((sE e G he).v hv) (da_cons ((sE e' G he').v hv') da_nil hs') hs) (by rw [hs, hs']; rfl) hs'
        | [], _, h => cases h
        | [_], _, h => cases h
        | _ :: _ :: _ :: _, _, h => cases h
        | [_, _], _ :: _, h => cases h
      | _ => cases h
    | _ => cases h
  | .zip e e', sc0, sc, tg, a, X, G, h => by
    cases a with
    | Call fn as kws pos =>
      cases fn with
      | Name x p =>
        match as, kws, h with
        | [a, b], [], h =>
          simp only [mI, Bool.and_eq_true, decide_eq_true_eq] at h
          obtain ⟨⟨⟨⟨⟨⟨ht, rfl⟩, hg⟩, hv⟩, he⟩, hv'⟩, he'⟩ := h
          have hs := star_of (es := [b]) (env := X.env) (good_of he)
          have hs' := star_of (es := []) (env := X.env) (good_of he')
          cases tg with
          | Tuple elts kk tpos =>
            exact di_zip G.hK (G.gl hg) (G.bi (by decide +kernel)) (da_cons ((sE e G he).v hv) (da_cons ((sE e' G he').v hv') da_nil hs') hs) hs (by rw [hs']; rfl)
          | _ => cases ht
        | [], _, h => cases h
        | [_], _, h => cases h
        | _ :: _ :: _ :: _, _, h => cases h
        | [_, _], _ :: _, h => cases h
      | _ => cases h
    | _ => cases h
theorem sIf : ∀ (it : It) {sc0 sc : Scope} {tg a : Expr} {X : Cx}, Good S N sc0 sc X → mI S.St N sc it tg a = true → ∀ x, foldedSetIterable a X.env x = pure x
  | .seq e, sc0, sc, tg, a, X, G, h => by
    simp only [mI, Bool.and_eq_true] at h
    exact fold_of (good_of h.2)
  | .range1 e, sc0, sc, tg, a, X, G, h => by
    cases a with
    | Set _ _ _ => cases h
    | Call fn as kws pos => exact fold_of rfl
    | _ => cases h
  | .range2 e e', sc0, sc, tg, a, X, G, h => by
    cases a with
    | Set _ _ _ => cases h
    | Call fn as kws pos => exact fold_of rfl
    | _ => cases h
  | .zip e e', sc0, sc, tg, a, X, G, h => by
    cases a with
    | Set _ _ _ => cases h
    | Call fn as kws pos => exact fold_of rfl
    | _ => cases h
theorem sCond : ∀ (c : Es) {sc0 sc : Scope} {ifs : List Expr} {X : Cx}, Good S N sc0 sc X → mPs S.St N sc c ifs = true → ifs.length ≤ 1 → PTs X ifs (RdT S.g (evCond S.C c))
  | .nil, sc0, sc, ifs, X, G, h, hl => by
    cases ifs with
    | nil => exact dts_nil
    | cons _ _ => cases h
  | .cons e es, sc0, sc, ifs, X, G, h, hl => by
    cases ifs with
    | nil => cases h
    | cons a as =>
      cases as with
      | cons _ _ => simp at hl
      | nil =>
        simp only [mPs, Bool.and_eq_true] at h
        cases es with
        | cons _ _ => cases h.2
        | nil => exact pts_one (sE e G h.1).t
end
end
end Ev

set_option Elab.async false
set_option linter.all false
set_option autoImplicit false
set_option maxRecDepth 100000
set_option maxHeartbeats 4000000
/-! Ev9: the small syntax is sound: statements, defs. -/
namespace Ev
open PySem PySem.Spec PyProof.Rows L2

theorem swapsSole_of {e tg : Expr} {l : Nat} {env : Env} (h : isLC e = false) : swapsWithSole [tg] e l env = pure false := swaps_of h
theorem swapped_of {e tg : Expr} {env : Env} (hg : goodT tg = true) (h : (isTupE tg && isTupE e) = false) : swappedStores [tg] e env = pure none := by
  cases tg with
  | Name _ _ => cases e <;> rfl
  | Subscript _ _ _ => cases e <;> rfl
  | Tuple _ _ _ => cases e <;> first | rfl | cases h
  | _ => cases hg
theorem append_pe {X : Cx} {x : Str} {p apos epos : Pos} {e : Expr} (he : goodX e = true) (hl : (apos.endLine == epos.line) = true) (to : TE) (t : TA) (ho : PE X (.Name x p) to) (ha : PA X [e] t) :
    PE X (.Call (.Attribute (.Name x p) "append" apos) [e] [] epos) (tBM X.K "list" rAppend to t) :=
  have hs := star_of (es := []) (env := X.env) he
  pe_bm PySem.F.plainAttrs_list PySem.F.slot_list_append PySem.F.type_list_append mt_append ho ha rfl (by rw [hs]; rfl) hl hs rfl
/-- the swap of a comprehension: what is returned -/
theorem swaps_lc {X : Cx} {S : Sg} {N : List Str} {sc0 sc : Scope} (G : Good S N sc0 sc X) {x : Expr} {gs : List Comprehension} {s : Scope} {p py : Pos} {y : Str} {l : Nat} (h : lcSwaps sc y py (.ListComp x gs s p) = true) :
    X.env.scope.names.lookup y = some .local ∧ swapsWith (.ListComp x gs s p) (some (.Name y py)) l X.env = pure true := by
  simp only [lcSwaps, Bool.and_eq_true, decide_eq_true_eq, Bool.not_eq_true'] at h
  have hy : X.env.scope.names.lookup y = some .local := by rw [G.hsc]; exact h.1.1
  exact ⟨hy, sw_true (by rw [G.hsc]; exact G.fk) hy h.1.2 h.2⟩
theorem swaps_lcF {X : Cx} {S : Sg} {N : List Str} {sc0 sc : Scope} (G : Good S N sc0 sc X) {x : Expr} {gs : List Comprehension} {s : Scope} {p py : Pos} {y : Str} {l : Nat} (h : lcSwaps sc y py (.ListComp x gs s p) = false) :
    swapsWith (.ListComp x gs s p) (some (.Name y py)) l X.env = pure false := by
  have hk : X.env.scope.kind = .function := by rw [G.hsc]; exact G.fk
  have hb : X.env.blockKind = .function := by unfold Env.blockKind; rw [hk]; rfl
  show (pure (X.env.blockKind == .function && X.env.kindOf y == some .local && py.line == (Expr.ListComp x gs s p).pos.line && !(s.names.any fun (n, k) => n == y && (k == .local || k == .cell))) : Sem Bool) = pure false
  congr 1
  rw [hb]
  have hy : (X.env.kindOf y == some .local) = decide (sc.names.lookup y = some .local) := by
    show (X.env.scope.names.lookup y == some .local) = _
    rw [G.hsc]
    rw [Bool.eq_iff_iff]
    simp
  rw [hy]
  exact h

theorem isF_of {St : Stt} {N : List Str} {sc : Scope} {e : E} {v : Expr} (hlc : isLC v = true) (h : mE St N sc e v = true) : e.isF = true := by
  cases v with
  | ListComp _ _ _ _ => cases e <;> first | rfl | cases h
  | SetComp _ _ _ _ => cases e <;> cases h
  | DictComp _ _ _ _ _ => cases e <;> cases h
  | _ => cases hlc
section
variable (Z : Sg) (N : List Str)
/-- name = [..], open or frozen -/
theorem s_lc {sc0 : Scope} {X : Cx} (G : Good Z N sc0 sc0 X) {own' : Bool} {i : Nat} {y : Str} {py pos : Pos} {e : E} {a : Expr} (hN : N[i]? = some y) (hl : locB sc0 y = true) (hF : e.isF = true) (hm : mE Z.St N sc0 e a = true) (hlc : isLC a = true) :
    PS X (.Assign [.Name y py] a pos) (RdS Z.g (if own' = true then xOwn i (ev Z.C e) else xAsg (.nm i) (ev Z.C e))) := by
  obtain ⟨hx, hf⟩ := G.st y hl
  cases a with
  | ListComp x gens scope pos' =>
    cases hsw : lcSwaps sc0 y py (.ListComp x gens scope pos') with
    | false =>
      have hs := swaps_lcF (l := pos.line) G hsw
      have q := (sE Z N e G hm).fr hF
      cases own' with
      | true => exact x_own (by rw [G.hN]; exact G.nd) (by rw [G.hN]; exact hN) (by rw [G.hsc]; exact hx) q hs (by rw [G.hsc]; exact hf)
      | false => exact x_asg (frzF q) (dg_nm (by rw [G.hN]; exact G.nd) (by rw [G.hN]; exact hN) (by rw [G.hsc]; exact hx) (by rw [G.hsc]; exact hf)) hs rfl rfl
    | true =>
      obtain ⟨hyl, hs⟩ := swaps_lc (l := pos.line) G hsw
      cases e with
      | lc own t it c elt =>
        simp only [mE] at hm
        split at hm
        · rename_i tg iter ifs hq
          obtain rfl := lcGens_some hq
          simp only [Bool.and_eq_true, decide_eq_true_eq] at hm
          obtain ⟨⟨⟨⟨⟨⟨⟨hb, ho⟩, hi⟩, ht⟩, hc⟩, hl'⟩, hv⟩, he⟩ := hm
          refine x_setLc (own' := own') G.calm (by rw [G.hN]; exact G.nd) (by rw [G.hN]; exact hN) hyl hs (sI Z N it G hi) (by rw [G.hN, G.hsc]; exact blkOk_by hb) (fun s H C cl fp => (G.blk hb s H C cl fp).tgt ht) (fun s H C cl fp => sCond Z N c (G.blk hb s H C cl fp) hc hl')
            (fun s H C cl fp => (sE Z N elt (G.blk hb s H C cl fp) he).v hv) (sIf Z N it G hi) ?_
          intro i hi'
          have := List.all_eq_true.mp ho i hi'
          simpa using this
        · cases hm
      | _ => cases hm
  | SetComp _ _ _ _ => cases e <;> cases hm
  | DictComp _ _ _ _ _ => cases e <;> cases hm
  | _ => cases hlc
mutual
theorem sS : ∀ (st : S) {sc : Scope} {a : Stmt} {X : Cx}, Good Z N sc sc X → mS Z.St N sc st a = true → PS X a (RdS Z.g (xS Z.C st))
  | .ret e, sc, a, X, G, h => by
    cases a with
    | Return v _ =>
      cases v with
      | some a =>
        simp only [mS, Bool.and_eq_true] at h
        exact x_ret ((sE Z N e G h.2).v h.1)
      | none => cases h
    | _ => cases h
  | .asg t e, sc, a, X, G, h => by
    cases a with
    | Assign tgs v pos =>
      match tgs, h with
      | [tg], h =>
        simp only [mS, Bool.and_eq_true, Bool.not_eq_true'] at h
        obtain ⟨⟨⟨ht, hv⟩, he⟩, hn⟩ := h
        cases hlc : isLC v with
        | false =>
          have hg := goodT_of ht
          exact x_asg ((sE Z N e G he).v hv) (G.tgt ht) (swapsSole_of hlc) (swapped_of hg hn) (asgEach_of (es := []) hg)
        | true =>
          match t, tg, ht with
          | .nm i, .Name y py, ht =>
            simp only [mT, Bool.and_eq_true, decide_eq_true_eq] at ht
            have hF : e.isF = true := isF_of hlc he
            exact s_lc Z N (own' := false) G ht.1 ht.2 hF he hlc
          | .nm i, .Tuple ts kk tp, ht => cases ht
          | .tp t u, .Tuple ts kk tp, ht =>
            refine x_asg ((sE Z N e G he).v hv) (G.tgt ht) ?_ ?_ (asgEach_of (es := []) (goodT_of ht))
            · cases v <;> first | rfl | cases hlc
            · cases v <;> first | rfl | cases hlc
          | .tp3 t u w, .Tuple ts kk tp, ht =>
            refine x_asg ((sE Z N e G he).v hv) (G.tgt ht) ?_ ?_ (asgEach_of (es := []) (goodT_of ht))
            · cases v <;> first | rfl | cases hlc
            · cases v <;> first | rfl | cases hlc
          | .tp t u, tg, ht =>
            cases tg with
            | Tuple ts kk tp =>
              refine x_asg ((sE Z N e G he).v hv) (G.tgt ht) ?_ ?_ (asgEach_of (es := []) (goodT_of ht))
              · cases v <;> first | rfl | cases hlc
              · cases v <;> first | rfl | cases hlc
            | _ => cases ht
          | .tp3 t u w, tg, ht =>
            cases tg with
            | Tuple ts kk tp =>
              refine x_asg ((sE Z N e G he).v hv) (G.tgt ht) ?_ ?_ (asgEach_of (es := []) (goodT_of ht))
              · cases v <;> first | rfl | cases hlc
              · cases v <;> first | rfl | cases hlc
            | _ => cases ht
          | .nm i, tg, ht =>
            cases tg with
            | Name y py =>
              simp only [mT, Bool.and_eq_true, decide_eq_true_eq] at ht
              have hF : e.isF = true := isF_of hlc he
              exact s_lc Z N (own' := false) G ht.1 ht.2 hF he hlc
            | _ => cases ht
      | [], h => cases h
      | _ :: _ :: _, h => cases h
    | _ => cases h
  | .own i e, sc, a, X, G, h => by
    cases a with
    | Assign tgs v pos =>
      match tgs, h with
      | [.Name x px], h =>
        simp only [mS, Bool.and_eq_true, decide_eq_true_eq] at h
        obtain ⟨⟨⟨hi, hl⟩, hF⟩, he⟩ := h
        obtain ⟨hx, hf⟩ := G.st x hl
        cases hlc : isLC v with
        | false => exact x_own (by rw [G.hN]; exact G.nd) (by rw [G.hN]; exact hi) (by rw [G.hsc]; exact hx) ((sE Z N e G he).fr hF) (swaps_of hlc) (by rw [G.hsc]; exact hf)
        | true => exact s_lc Z N (own' := true) G hi hl hF he hlc
      | [], h => cases h
      | tg :: _ :: _, h => cases tg <;> cases h
      | [tg], h =>
        cases tg with
        | Name x px =>
          simp only [mS, Bool.and_eq_true, decide_eq_true_eq] at h
          obtain ⟨⟨⟨hi, hl⟩, hF⟩, he⟩ := h
          obtain ⟨hx, hf⟩ := G.st x hl
          cases hlc : isLC v with
          | false => exact x_own (by rw [G.hN]; exact G.nd) (by rw [G.hN]; exact hi) (by rw [G.hsc]; exact hx) ((sE Z N e G he).fr hF) (swaps_of hlc) (by rw [G.hsc]; exact hf)
          | true => exact s_lc Z N (own' := true) G hi hl hF he hlc
        | _ => cases h
    | _ => cases h
  | .app i e, sc, a, X, G, h => by
    cases a with
    | Expr v pos =>
      cases v with
      | Call fn as kws cp =>
        cases fn with
        | Attribute o m ap =>
          cases o with
          | Name x p =>
            match as, kws, h with
            | [a], [], h =>
              simp only [mS, Bool.and_eq_true, decide_eq_true_eq] at h
              obtain ⟨⟨⟨⟨⟨⟨hi, hx⟩, hn⟩, rfl⟩, hv⟩, he⟩, hl⟩ := h
              have hn' := nm_of hn
              have gx := good_of he
              exact x_app (by rw [G.hN]; exact hi) (by rw [G.hsc]; exact vis_of hx) hn'.1 hn'.2 ((sE Z N e G he).v hv) (star_of gx) rfl rfl (fun to t ho ha => append_pe gx hl to t ho ha)
            | [], _, h => cases h
            | _ :: _ :: _, _, h => cases h
            | [_], _ :: _, h => cases h
          | _ => cases h
        | _ => cases h
      | _ => cases h
    | _ => cases h
  | .set i b e, sc, a, X, G, h => by
    cases a with
    | Assign tgs v pos =>
      match tgs, h with
      | [tg], h =>
        cases tg with
        | Subscript o y p2 =>
          cases o with
          | Name x p =>
            simp only [mS, Bool.and_eq_true, decide_eq_true_eq] at h
            obtain ⟨⟨⟨⟨⟨⟨hi, hx⟩, hn⟩, hbv⟩, hb⟩, hv⟩, he⟩ := h
            have hn' := nm_of hn
            have gb := good_of hb
            have hlc : isLC v = false ∨ isLC v = true := by cases isLC v <;> simp
            refine x_set (by rw [G.hN]; exact hi) (by rw [G.hsc]; exact vis_of hx) hn'.1 hn'.2 ((sE Z N e G he).v hv) ((sE Z N b G hb).v hbv) ?_ ?_ ?_ rfl
            · intro v
              cases y <;> first | rfl | cases gb
            · cases v <;> rfl
            · cases v <;> rfl
          | _ => cases h
        | _ => cases h
      | [], h => cases h
      | tg :: _ :: _, h =>
        cases tg with
        | Subscript o y p2 => cases o <;> cases h
        | _ => cases h
    | _ => cases h
  | .aug i o e, sc, a, X, G, h => by
    cases a with
    | AugAssign tg op v pos =>
      cases tg with
      | Name x p =>
        simp only [mS, Bool.and_eq_true, Bool.or_eq_true, decide_eq_true_eq] at h
        obtain ⟨⟨⟨⟨⟨hi, hl⟩, rfl⟩, ho⟩, hv⟩, he⟩ := h
        obtain ⟨hx, hf⟩ := G.st x hl
        rcases ho with rfl | rfl
        · exact x_aug (by rw [G.hN]; exact G.nd) (by rw [G.hN]; exact hi) (by rw [G.hsc]; exact hx) ((sE Z N e G he).v hv) ip_add ip_augAdd (by rw [G.hsc]; exact hf)
        · exact x_aug (by rw [G.hN]; exact G.nd) (by rw [G.hN]; exact hi) (by rw [G.hsc]; exact hx) ((sE Z N e G he).v hv) ip_sub ip_augSub (by rw [G.hsc]; exact hf)
      | _ => cases h
    | _ => cases h
  | .drop e, sc, a, X, G, h => by
    cases a with
    | Expr v pos =>
      simp only [mS, Bool.and_eq_true, Bool.not_eq_true'] at h
      exact x_drop ((sE Z N e G h.1.2).v h.1.1) (swaps_of h.2)
    | _ => cases h
  | .ite c a' b', sc, a, X, G, h => by
    cases a with
    | If z x y _ =>
      simp only [mS, Bool.and_eq_true] at h
      exact x_if (sE Z N c G h.1.1).t (sSs a' G h.1.2) (sSs b' G h.2)
    | _ => cases h
  | .for_ t it b, sc, a, X, G, h => by
    cases a with
    | For tg iter x oe _ =>
      cases oe with
      | nil =>
        simp only [mS, Bool.and_eq_true] at h
        exact x_for (by rw [G.xe]; exact PassesOwn.never) G.calm (sI Z N it G h.1.2) (G.tgt h.1.1) (sSs b G h.2) (sIf Z N it G h.1.2)
      | cons _ _ => cases h
    | _ => cases h
  | .while_ c b, sc, a, X, G, h => by
    cases a with
    | While z x oe _ =>
      cases oe with
      | nil =>
        simp only [mS, Bool.and_eq_true] at h
        exact x_while (by rw [G.xe]; exact PassesOwn.never) (sE Z N c G h.1).t (sSs b G h.2)
      | cons _ _ => cases h
    | _ => cases h
  | .pass, sc, a, X, G, h => by
    cases a with
    | Pass _ => exact x_pass
    | _ => cases h
  | .brk, sc, a, X, G, h => by
    cases a with
    | Break _ => exact x_break
    | _ => cases h
  | .cont, sc, a, X, G, h => by
    cases a with
    | Continue _ => exact x_cont
    | _ => cases h
theorem sSs : ∀ (ss : Ss) {sc : Scope} {as : List Stmt} {X : Cx}, Good Z N sc sc X → mSs Z.St N sc ss as = true → PSs X as (RdS Z.g (xSs Z.C ss))
  | .nil, sc, as, X, G, h => by
    cases as with
    | nil => exact xs_nil
    | cons _ _ => cases h
  | .cons st ss, sc, as, X, G, h => by
    cases as with
    | nil => cases h
    | cons a as =>
      simp only [mSs, Bool.and_eq_true] at h
      exact xs_cons (sS st G h.1) (sSs ss G h.2)
  | .frz i ss, sc, as, X, G, h => by
    simp only [mSs] at h
    exact xs_frz (sSs ss G h)
end
end

/-! ### defs -/
structure FD where
  name : Str
  np : Nat
  N : List Str
  body : Ss
inductive Fn where
  | defn (fd : FD)
  | prim (c : List D → M D)
abbrev Tab := List (Nat × Fn)
def runF (o : Out) : M D := match o with
  | .rt d => pure d
  | .nx _ => pure .none
  | _ => M.fail
def rho0 (N : List Str) (ds : List D) : Rho := ds.map Sl.val ++ List.replicate (N.length - ds.length) .un
def callF (T : Tab) : Nat → Nat → List D → M D
  | 0, _, _ => M.fail
  | k + 1, f, ds => match T.lookup f with
    | some (.defn fd) => if ds.length = fd.np then (do let o ← xSs (callF T k) fd.body (rho0 fd.N ds); runF o) else M.fail
    | some (.prim c) => c ds
    | none => M.fail

theorem mdl_start {g : Gh} {F H : Hp} {n : Nat} {N : List Str} {ds : List D} {vs : List V} (hl : ds.length ≤ N.length) (s : Same F (vis g H)) (P : PoolAt g n H) (r : RepAll g F vs ds) : Mdl g F H F (rho0 N ds) n (L2.start N vs) H := by
  have hlen := r.length
  refine ⟨Grow.refl, fun hl => ⟨by rw [(P hl).p]; rfl, by rw [(P hl).r]; rfl, by rw [(P hl).c]; rfl⟩, s, P, by simp [rho0, L2.start, hlen], fun i sl e => ?_, fun i j di dj a e1 e2 e3 e4 => ?_⟩
  · unfold rho0 at e
    by_cases hi : i < ds.length
    · rw [List.getElem?_append_left (by simpa using hi), List.getElem?_map, Option.map_eq_some_iff] at e
      obtain ⟨d, e, rfl⟩ := e
      obtain ⟨v, hv, rv⟩ := r.get e
      refine ⟨v, ?_, rv⟩
      unfold L2.start
      rw [List.getElem?_append_left (by simp; omega), List.getElem?_map, hv]
      rfl
    · rw [List.getElem?_append_right (by simpa using hi), List.getElem?_replicate] at e
      split at e
      · cases e; trivial
      · cases e
  · exfalso
    unfold rho0 at e1
    by_cases hi : i < ds.length
    · rw [List.getElem?_append_left (by simpa using hi), List.getElem?_map, Option.map_eq_some_iff] at e1
      obtain ⟨d, e, z⟩ := e1
      cases z
    · rw [List.getElem?_append_right (by simpa using hi), List.getElem?_replicate] at e1
      split at e1 <;> cases e1

def DefOk (K : PySem.W.Frag) (mg : Str → Option Value) (St : Stt) (fd : FD) : Prop :=
  ∃ a d qual st, Fun K fd.name qual st a d ∧ mg fd.name = some (.ref a) ∧ Binds K d (fd.N.take fd.np) [] ∧ FnScope fd.N (fd.N.take fd.np) (defScope st) ∧ fd.np ≤ fd.N.length ∧ mSs St fd.N (defScope st) fd.body (defBody st) = true
def PrimOk (P : Program) (w : World) (K : PySem.W.Frag) (mg : Str → Option Value) (base : Heap) (g : Gh) (x : Str) (c : List D → M D) : Prop :=
  ∃ a d ps, mg x = some (.ref a) ∧ PySem.W.keepIn K (.ref a) = true ∧ Binds K d ps [] ∧ FnOk P w K mg base CX0 1 a d ps (spF g c)
def FnIs (P : Program) (w : World) (K : PySem.W.Frag) (mg : Str → Option Value) (base : Heap) (g : Gh) (T : Tab) (St : Stt) (f : Nat) (x : Str) : Prop :=
  (∃ fd, T.lookup f = some (.defn fd) ∧ fd.name = x ∧ DefOk K mg St fd) ∨ (∃ c, T.lookup f = some (.prim c) ∧ PrimOk P w K mg base g x c)
/-- the text's defs, as they stand behind the top -/
structure TabOk (P : Program) (w : World) (K : PySem.W.Frag) (mg : Str → Option Value) (base : Heap) (g : Gh) (T : Tab) (St : Stt) : Prop where
  hK : g.K = K
  bi : ∀ x ∈ biNames, mg x = none
  cnOk : ∀ x d, (x, d) ∈ St.cns → ∃ v u, mg x = some u ∧ RelV v u ∧ ∀ F : Hp, Rep g F v d
  fns : ∀ f x, St.fns.lookup f = some x → FnIs P w K mg base g T St f x

theorem fns_sound {P : Program} {w : World} {K : PySem.W.Frag} {mg : Str → Option Value} {base : Heap} {g : Gh} {T : Tab} {St : Stt} (O : TabOk P w K mg base g T St) : ∀ (k f : Nat) x, St.fns.lookup f = some x →
    ∃ a fd ps, mg x = some (.ref a) ∧ PySem.W.keepIn K (.ref a) = true ∧ Binds K fd ps [] ∧ FnOk P w K mg base CX0 (k + 1) a fd ps (spF g (callF T k f))
  | 0, f, x, hf => by
    rcases O.fns f x hf with ⟨fd, h, rfl, a, d, qual, st, h1, h2, h3, h4, h5, h6⟩ | ⟨c, h, a, d, ps, h1, h2, h3, h4⟩
    · refine ⟨a, d, _, h2, h1.kp, h3, ⟨fun vs H Q E ⟨F, n, ds, d, n', _, _, _, z, _⟩ => (by cases z), fun A outer s H args us vs Q E _ _ _ _ ⟨F, n, ds, d, n', _, _, _, z, _⟩ => (by cases z)⟩⟩
    · refine ⟨a, d, ps, h1, h2, h3, ⟨fun vs H Q E ⟨F, n, ds, d, n', _, _, _, z, _⟩ => (by cases z), fun A outer s H args us vs Q E _ _ _ _ ⟨F, n, ds, d, n', _, _, _, z, _⟩ => (by cases z)⟩⟩
  | k + 1, f, x, hf => by
    have ih := fns_sound O k
    rcases O.fns f x hf with ⟨fd, h, rfl, a, d, qual, st, h1, h2, h3, h4, h5, h6⟩ | ⟨c, h, a, d, ps, h1, h2, h3, h4⟩
    case inr =>
      refine ⟨a, d, ps, h1, h2, h3, (h4.mono (by omega)).imp fun vs H Q E ⟨F, n, ds, d, n', q1, q2, q3, q4, q5⟩ => ⟨F, n, ds, d, n', q1, q2, q3, ?_, q5⟩⟩
      unfold callF at q4
      rw [h] at q4
      exact q4
    case inl =>
      have inv : ∀ {ds : List D} {n : Nat} {r : D × Nat}, callF T (k + 1) f ds n = some r → ds.length = fd.np ∧ ∃ o n1, xSs (callF T k) fd.body (rho0 fd.N ds) n = some (o, n1) ∧ runF o n1 = some r := fun {ds n r} q => by
        unfold callF at q
        rw [h] at q
        simp only at q
        split at q
        · rename_i hl
          obtain ⟨o, n1, e1, e2⟩ := M.bind_some q
          exact ⟨hl, o, n1, e1, e2⟩
        · cases q
      refine ⟨a, d, _, h2, h1.kp, h3, h1.ok h4 (fun vs H Q E ⟨F, n, ds, d, n', q1, q2, q3, q4, q5⟩ => ?_) (fun cdv A outer s H vs Q E hr ⟨F, n, ds, d', n', q1, q2, q3, q4, q5⟩ => ?_)⟩
      · have := (inv q4).1
        rw [q3.length, this, List.length_take]
        show fd.np = min fd.np fd.N.length
        omega
      · obtain ⟨hl, o, n1, e1, e2⟩ := inv q4
        let S : Sg := { P := P, w := w, K := K, mg := mg, base := base, g := g, k := k + 1, C := callF T k, St := St, hK := O.hK, bi := O.bi, cn := O.cnOk, fn := ih }
        have G : Good S fd.N (defScope st) (defScope st) (cxOf CX0 P w K mg base fd.N qual (defScope st) a cdv A outer s H E).nox :=
          ⟨rfl, rfl, rfl, rfl, rfl, rfl, h4.nd, rfl, fun x hx => ⟨loc_of hx, .inl rfl⟩, h4.kind, rfl, hr, rfl⟩
        refine ⟨_, sSs S fd.N fd.body G h6, ?_⟩
        have m := mdl_start (N := fd.N) (by omega) q1 q2 q3
        refine ⟨F, H, F, rho0 fd.N ds, n, o, n1, e1, m, ?_⟩
        cases o with
        | rt r =>
          cases e2
          exact fun v F' H' gr s' P' rv => q5 v F' H' gr s' P' rv
        | nx ρ =>
          cases e2
          exact fun F' σ' H' sm m' => q5 .non F' H' m'.gr m'.sub m'.pool .non
        | bk ρ => cases e2
        | ct ρ => cases e2
end Ev

set_option Elab.async false
set_option linter.all false
set_option autoImplicit false
set_option maxRecDepth 100000
set_option maxHeartbeats 4000000
/-! Ev10: the law's pool and its draws, the law's own def. -/
namespace Ev
open PySem PySem.Spec PyProof.Rows L2

/-! ### a draw -/
def drawI (rows : List Int) (n : Nat) (m : Int) : Int := (rows.getD (n % rows.length) 0 + ((n / rows.length : Nat) : Int) * 1013 + ((n / rows.length : Nat) : Int) * (n : Int) * 7).fmod m
def drawC (rows : List Int) : List D → M D := fun ds n => match ds with
  | [.pool, .int m] => if 0 < m ∧ 0 < rows.length ∧ rows.length < 1073741824 ∧ n < 1152921504606846976 then some (.int (drawI rows n m), n + 1) else none
  | _ => none
/-- the body of the law's draw, at any places -/
inductive DrawBody : List Stmt → Prop
  | mk (p1 p2 p3 p4 p5 p6 p7 p8 p9 p10 p11 p12 p13 p14 p15 p16 p17 p18 p19 p20 p21 p22 p23 p24 p25 p26 p27 p28 p29 p30 p31 p32 p33 p34 p35 p36 p37 p38 p39 p40 p41 p42 p43 p44 p45 p46 p47 p48 p49 p50 p51 : Pos) : DrawBody [.Assign [(.Name "at" p1)] (.Subscript (.Subscript (.Name "pool" p2) (.Constant (.int 1) 0 p3) p4) (.Constant (.int 0) 0 p5) p6) p7,
    .Assign [(.Subscript (.Subscript (.Name "pool" p8) (.Constant (.int 1) 0 p9) p10) (.Constant (.int 0) 0 p11) p12)] (.BinOp (.Name "at" p13) .Add (.Constant (.int 1) 0 p14) p15) p16,
    .Assign [(.Name "turn" p17)] (.BinOp (.Name "at" p18) .FloorDiv (.Call (.Name "len" p19) [(.Subscript (.Name "pool" p20) (.Constant (.int 0) 0 p21) p22)] [] p23) p24) p25,
    .Return (some (.BinOp (.Call (.Name "int" p47) [(.BinOp (.BinOp (.Subscript (.Subscript (.Name "pool" p26) (.Constant (.int 0) 0 p27) p28) (.BinOp (.Name "at" p29) .Mod (.Call (.Name "len" p30) [(.Subscript (.Name "pool" p31) (.Constant (.int 0) 0 p32) p33)] [] p34) p35) p36) .Add (.BinOp (.Name "turn" p37) .Mult (.Constant (.int 1013) 0 p38) p39) p40) .Add (.BinOp (.BinOp (.Name "turn" p41) .Mult (.Name "at" p42) p43) .Mult (.Constant (.int 7) 0 p44) p45) p46)] [] p48) .Mod (.Name "many" p49) p50)) p51]
def drawScope : Scope := { kind := .function, names := [("pool", .local), ("many", .local), ("at", .local), ("turn", .local), ("len", .globalImplicit), ("int", .globalImplicit)], isGenerator := false, isCoroutine := false, more := [] }
theorem drawFS : FnScope ["pool", "many", "at", "turn"] ["pool", "many"] drawScope := ⟨rfl, rfl, rfl, by decide +kernel, rfl, by decide +kernel, by decide +kernel⟩
section
variable {P : Program} {w : World} {K : PySem.W.Frag} {mg : Str → Option Value} {base : Heap}
theorem seq0 {α : Type} {xs : List α} {v : α} (h : xs[0]? = some v) : atI xs 0 = some v := atI_nat (j := 0) h
theorem seq1 {α : Type} {xs : List α} {v : α} (h : xs[1]? = some v) : atI xs 1 = some v := atI_nat (j := 1) h
theorem draw_ok {g : Gh} {a : Addr} {d : FuncData} {st : Stmt} (hl : g.live = true) (F : Fun K "_law_draw" "_law_draw" st a d) (hs : defScope st = drawScope) (hb : DrawBody (defBody st)) (m1 : mg "len" = none) (m2 : mg "int" = none) :
    FnOk P w K mg base CX0 1 a d ["pool", "many"] (spF g (drawC g.rows)) := by
  refine F.ok (by rw [hs]; exact drawFS) (fun vs H Q E ⟨F, n, ds, dd, n', q1, q2, q3, q4, q5⟩ => ?_) (fun cdv A outer s H vs Q E hr ⟨F, n, ds, dd, n', q1, q2, q3, q4, q5⟩ => ?_)
  · unfold drawC at q4
    split at q4
    · cases q3 with
      | cons _ t => cases t with
        | cons _ t => cases t; rfl
    · cases q4
  · unfold drawC at q4
    split at q4
    case h_2 => cases q4
    rename_i m
    split at q4
    case isFalse => cases q4
    rename_i hc
    obtain ⟨hm, hr0, hr1, hn⟩ := hc
    cases q4
    cases q3 with
    | cons r1 t =>
    cases t with
    | cons r2 t =>
    cases t
    cases r1
    cases r2
    have Q2 := q2 hl
    have hu := hu_of hr
    rw [hs]
    generalize defBody st = bd at hb
    cases hb
    have nd := drawFS.nd
    refine ⟨_, pss_cons (ps_set (i := 2) nd rfl (.inl rfl) (pe_ix ix_list (pe_ix ix_list (pv 0) pe_int (fun _ _ => rfl)) pe_int (fun _ _ => rfl)))
      (pss_cons (ps_asg (pe_op op_add (pv 2) pe_int) (pg_sub (pe_ix ix_list (pv 0) pe_int (fun _ _ => rfl)) pe_int set_list))
      (pss_cons (ps_set (i := 3) nd rfl (.inl rfl) (pe_op op_fdivN (pv 2) (pe_callB call_len_seq (by rfl) m1 PySem.boot_len (pa_cons (pe_ix ix_list (pv 0) pe_int (fun _ _ => rfl)) pa_nil))))
      (pss_one (ps_ret (pe_op op_modN (pe_callTy call_int1 (by rfl) m2 boot_int (pa_cons (pe_op op_add (pe_op op_add (pe_ix ix_list (pe_ix ix_list (pv 0) pe_int (fun _ _ => rfl)) (pe_op op_modN (pv 2) (pe_callB call_len_seq (by rfl) m1 PySem.boot_len (pa_cons (pe_ix ix_list (pv 0) pe_int (fun _ _ => rfl)) pa_nil))) (fun _ _ => rfl)) (pe_op op_mul (pv 3) pe_int)) (pe_op op_mul (pe_op op_mul (pv 3) (pv 2)) pe_int)) pa_nil)) (pv 1)))))), ?_⟩
    have hp2 : ∀ o, (upd H g.pc o) g.pp = some (.lst [.ref g.pr, .ref g.pc]) := fun o => by rw [upd_ne Q2.np.symm]; exact Q2.p
    have hr2 : ∀ o, (upd H g.pc o) g.pr = some (.lst (g.rows.map V.int)) := fun o => by rw [upd_ne Q2.nr.symm]; exact Q2.r
    have hL : ((g.rows.map V.int).length : Int) = (g.rows.length : Int) := by rw [List.length_map]
    -- at = pool[1][0]
    refine ⟨_, rfl, g.pp, _, 1, .ref g.pc, rfl, rfl, .of Q2.p, seq1 rfl, g.pc, _, 0, .int n, rfl, rfl, .of Q2.c, seq0 rfl, ?_⟩
    -- pool[1][0] = at + 1
    refine ⟨_, rfl, _, 1, rfl, rfl, _, rfl, g.pp, _, 1, .ref g.pc, rfl, rfl, .of Q2.p, seq1 rfl, g.pc, _, 0, 0, rfl, rfl, Q2.c, rfl, ?_⟩
    -- turn = at // len(pool[0])
    refine ⟨_, rfl, _, rfl, g.pp, _, 0, .ref g.pr, rfl, rfl, .of (hp2 _), seq0 rfl, g.pr, _, rfl, .inl (.of (hr2 _)), _, _, rfl, rfl, ⟨by rw [hL]; omega, by rw [hL]; omega⟩, ?_⟩
    -- return
    have e1 : Int.fdiv (n : Int) ((g.rows.map V.int).length : Int) = ((n / g.rows.length : Nat) : Int) := by
      rw [hL, Int.fdiv_eq_ediv_of_nonneg _ (by omega)]; rfl
    have e2 : Int.fmod (n : Int) ((g.rows.map V.int).length : Int) = ((n % g.rows.length : Nat) : Int) := by
      rw [hL, Int.fmod_eq_emod_of_nonneg _ (by omega)]; rfl
    have hlt : n % g.rows.length < g.rows.length := Nat.mod_lt _ hr0
    have hd : n / g.rows.length ≤ n := Nat.div_le_self _ _
    have ht0 : -(2 ^ 64) < ((n / g.rows.length : Nat) : Int) := Int.lt_of_lt_of_le (by decide) (Int.natCast_nonneg _)
    have ht1 : ((n / g.rows.length : Nat) : Int) < 2 ^ 64 := Int.lt_of_le_of_lt (Int.ofNat_le.mpr hd) (by omega)
    refine ⟨_, rfl, g.pp, _, 0, .ref g.pr, rfl, rfl, .of (hp2 _), seq0 rfl, _, rfl, _, rfl, g.pp, _, 0, .ref g.pr, rfl, rfl, .of (hp2 _), seq0 rfl, g.pr, _, rfl, .inl (.of (hr2 _)), _, _, rfl, rfl, by rw [hL]; omega, ?_⟩
    refine ⟨g.pr, _, _, .int (g.rows.getD (n % g.rows.length) 0), rfl, rfl, .of (hr2 _), ?_, ?_⟩
    · rw [e2]
      refine atI_nat ?_
      rw [List.getElem?_map, List.getD_eq_getElem?_getD, List.getElem?_eq_getElem hlt]
      rfl
    refine ⟨_, rfl, _, _, rfl, rfl, .inr ⟨by decide, by decide⟩, _, _, rfl, rfl, _, rfl, _, rfl, _, _, rfl, rfl, .inl ⟨by rw [e1]; exact ht0, by rw [e1]; exact ht1⟩, _, _, rfl, rfl, .inr ⟨by decide, by decide⟩, _, _, rfl, rfl, ?_⟩
    refine .inl ⟨_, rfl, _, rfl, _, _, rfl, rfl, by omega, ?_⟩
    rw [e1]
    refine q5 (.int (drawI g.rows n m)) F _ ⟨Same.refl _, fun b o e => ?_, fun _ _ => by rw [upd_same]; rfl, fun _ _ => rfl⟩ (fun b o e => ?_) (fun _ => ?_) (.int _)
    · obtain ⟨h1, h2⟩ := vis_some e
      rw [vis_ne h1, upd_ne (h1 hl)]
      exact h2
    · obtain ⟨h1, h2⟩ := vis_some (q1 b o e)
      rw [vis_ne h1, upd_ne (h1 hl)]
      exact h2
    · exact ⟨hp2 _, hr2 _, by rw [upd_same]; rfl, Q2.np, Q2.nr⟩
end
end Ev

set_option Elab.async false
set_option linter.all false
set_option autoImplicit false
set_option maxRecDepth 100000
set_option maxHeartbeats 4000000
/-! Ev11: weakest preconditions of evaluations. -/
namespace Ev
open PySem PySem.Spec PyProof.Rows L2

def wq {α : Type} (x : M α) (n : Nat) (Q : α → Nat → Prop) : Prop := ∃ a n', x n = some (a, n') ∧ Q a n'
theorem wq.mono {α : Type} {x : M α} {n : Nat} {Q Q' : α → Nat → Prop} (h : wq x n Q) (k : ∀ a n', Q a n' → Q' a n') : wq x n Q' :=
  let ⟨a, n', e, q⟩ := h; ⟨a, n', e, k a n' q⟩
theorem wq_of {α : Type} {x : M α} {n n' : Nat} {a : α} {Q : α → Nat → Prop} (e : x n = some (a, n')) (q : Q a n') : wq x n Q := ⟨a, n', e, q⟩
theorem wq_eq {α : Type} {x : M α} {n n' : Nat} {a : α} {Q : α → Nat → Prop} (e : x n = some (a, n')) : wq x n Q ↔ Q a n' :=
  by
  refine ⟨fun ⟨a', n'', e', q⟩ => ?_, fun q => ⟨a, n', e, q⟩⟩
  rw [e] at e'
  cases e'
  exact q
theorem wq_out {α : Type} {x : M α} {n n' : Nat} {a : α} (h : wq x n fun b m => b = a ∧ m = n') : x n = some (a, n') := by
  obtain ⟨b, m, e, rfl, rfl⟩ := h; exact e
@[simp] theorem wq_pure {α : Type} {a : α} {n : Nat} {Q : α → Nat → Prop} : wq (pure a : M α) n Q ↔ Q a n := wq_eq rfl
@[simp] theorem wq_ret {α : Type} {a : α} {n : Nat} {Q : α → Nat → Prop} : wq (M.ret a : M α) n Q ↔ Q a n := wq_eq rfl
@[simp] theorem wq_fail {α : Type} {n : Nat} {Q : α → Nat → Prop} : wq (M.fail : M α) n Q ↔ False := by
  refine ⟨fun ⟨_, _, e, _⟩ => ?_, False.elim⟩
  cases e
@[simp] theorem wq_bind {α β : Type} {x : M α} {f : α → M β} {n : Nat} {Q : β → Nat → Prop} : wq (x >>= f) n Q ↔ wq x n fun a n' => wq (f a) n' Q := by
  constructor
  · rintro ⟨b, n', e, q⟩
    obtain ⟨a, n1, e1, e2⟩ := M.bind_some e
    exact ⟨a, n1, e1, b, n', e2, q⟩
  · rintro ⟨a, n1, e1, b, n', e2, q⟩
    refine ⟨b, n', ?_, q⟩
    rw [M.bind_ap, e1]
    exact e2
@[simp] theorem wq_opt {α : Type} {o : Option α} {n : Nat} {Q : α → Nat → Prop} : wq (M.opt o) n Q ↔ ∃ a, o = some a ∧ Q a n := by
  constructor
  · rintro ⟨a, n', e, q⟩
    obtain ⟨h1, h2⟩ := M.opt_ok e
    simp only at h1 h2
    subst h2
    exact ⟨a, h1, q⟩
  · rintro ⟨a, rfl, q⟩
    exact ⟨a, n, rfl, q⟩
@[simp] theorem wq_ite {α : Type} {c : Prop} [Decidable c] {x y : M α} {n : Nat} {Q : α → Nat → Prop} : wq (if c then x else y) n Q ↔ if c then wq x n Q else wq y n Q := by
  split <;> rfl

theorem opt_bmap {o : Option Bool} {Q : D → Prop} : (∃ a, o.map D.bool = some a ∧ Q a) ↔ ∃ b, o = some b ∧ Q (.bool b) := by
  cases o <;> simp only [Option.map_none, Option.map_some, reduceCtorEq, false_and, exists_false, Option.some.injEq, exists_eq_left']
section
variable {fa fb fc : Rho → M D} {ft : Rho → M Bool} {fr : Rho → M (List D)} {fo fo' : Rho → M (Option Int)} {ρ : Rho} {n : Nat} {Q : D → Nat → Prop}
@[simp] theorem wq_bin {o : BinO} : wq (evBin o fa fb ρ) n Q ↔ wq (fa ρ) n fun x n1 => wq (fb ρ) n1 fun y n2 => ∃ z, binD o x y = some z ∧ Q z n2 := by simp [evBin]
@[simp] theorem wq_cmp {o : CmpO} : wq (evCmp o fa fb ρ) n Q ↔ wq (fa ρ) n fun x n1 => wq (fb ρ) n1 fun y n2 => ∃ z, cmpD o x y = some z ∧ Q (.bool z) n2 := by
  simp only [evCmp, wq_bind, wq_opt, opt_bmap]
@[simp] theorem wq_chain {o o' : CmpO} : wq (evChain o o' fa fb fc ρ) n Q ↔ wq (fa ρ) n fun x n1 => wq (fb ρ) n1 fun y n2 => ∃ c, cmpD o x y = some c ∧ if c = true then wq (fc ρ) n2 fun z n3 => ∃ r, cmpD o' y z = some r ∧ Q (.bool r) n3 else Q (.bool false) n2 := by
  simp only [evChain, wq_bind, wq_opt, wq_ite, wq_pure, opt_bmap]
@[simp] theorem wq_tst {Q : Bool → Nat → Prop} : wq (tst fa ρ) n Q ↔ wq (fa ρ) n fun x n1 => ∃ b, truD x = some b ∧ Q b n1 := by simp [tst]
@[simp] theorem wq_not : wq (evNot fa ρ) n Q ↔ wq (fa ρ) n fun x n1 => ∃ b, x = .bool b ∧ Q (.bool (!b)) n1 := by
  simp only [evNot, wq_bind, wq_opt]
  constructor <;> refine fun h => h.mono fun x n1 => ?_
  · rintro ⟨a, e, q⟩
    cases x <;> simp only [notD, reduceCtorEq] at e
    cases e
    exact ⟨_, rfl, q⟩
  · rintro ⟨b, rfl, q⟩
    exact ⟨_, rfl, q⟩
@[simp] theorem wq_and : wq (evAnd fa fb ρ) n Q ↔ wq (fa ρ) n fun x n1 => ∃ b, x = .bool b ∧ if b = true then wq (fb ρ) n1 Q else Q (.bool false) n1 := by
  simp only [evAnd, wq_bind]
  constructor <;> refine fun h => h.mono fun x n1 => ?_
  · intro h
    cases x <;> try (exact absurd h (by simp))
    rename_i b
    cases b
    · exact ⟨_, rfl, by simpa using h⟩
    · exact ⟨_, rfl, by simpa using h⟩
  · rintro ⟨b, rfl, q⟩
    cases b
    · simpa using q
    · simpa using q
@[simp] theorem wq_or : wq (evOr fa fb ρ) n Q ↔ wq (fa ρ) n fun x n1 => ∃ b, x = .bool b ∧ if b = true then Q (.bool true) n1 else wq (fb ρ) n1 Q := by
  simp only [evOr, wq_bind]
  constructor <;> refine fun h => h.mono fun x n1 => ?_
  · intro h
    cases x <;> try (exact absurd h (by simp))
    rename_i b
    cases b
    · exact ⟨_, rfl, by simpa using h⟩
    · exact ⟨_, rfl, by simpa using h⟩
  · rintro ⟨b, rfl, q⟩
    cases b
    · simpa using q
    · simpa using q
@[simp] theorem wq_if : wq (evIf ft fa fb ρ) n Q ↔ wq (ft ρ) n fun c n1 => if c = true then wq (fa ρ) n1 Q else wq (fb ρ) n1 Q := by simp [evIf]
@[simp] theorem wq_neg : wq (evNeg fa ρ) n Q ↔ wq (fa ρ) n fun x n1 => ∃ z, negD x = some z ∧ Q z n1 := by simp [evNeg]
@[simp] theorem wq_getV {i : Nat} : wq (getV i ρ) n Q ↔ ∃ d, ρ[i]? = some (.val d) ∧ Q d n := by
  constructor
  · rintro ⟨a, n', e, q⟩
    unfold getV at e
    split at e
    · cases e; exact ⟨_, by assumption, q⟩
    · cases e
  · rintro ⟨d, e, q⟩
    exact ⟨d, n, by unfold getV; rw [e], q⟩
def datR : Option Sl → Option D
  | some (.val d) => some d
  | some (.own d) => some d
  | _ => none
@[simp] theorem datR_val (d : D) : datR (some (.val d)) = some d := rfl
@[simp] theorem datR_own (d : D) : datR (some (.own d)) = some d := rfl
@[simp] theorem wq_getP {i : Nat} : wq (getP i ρ) n Q ↔ ∃ d, datR ρ[i]? = some d ∧ Q d n := by
  constructor
  · rintro ⟨a, n', e, q⟩
    unfold getP at e
    split at e
    · rename_i h; cases e; exact ⟨_, by rw [h]; rfl, q⟩
    · rename_i h; cases e; exact ⟨_, by rw [h]; rfl, q⟩
    · cases e
  · rintro ⟨d, e, q⟩
    refine ⟨d, n, ?_, q⟩
    unfold datR at e
    unfold getP
    split at e
    · rename_i h; cases e; first | rw [h] | rfl
    · rename_i h; cases e; first | rw [h] | rfl
    · cases e
@[simp] theorem wq_cst {d : D} : wq (cst d ρ) n Q ↔ Q d n := wq_eq rfl
@[simp] theorem wq_nil {Q : List D → Nat → Prop} : wq (evNil ρ) n Q ↔ Q [] n := wq_eq rfl
@[simp] theorem wq_cons {Q : List D → Nat → Prop} : wq (evCons fa fr ρ) n Q ↔ wq (fa ρ) n fun x n1 => wq (fr ρ) n1 fun r n2 => Q (x :: r) n2 := by simp [evCons]
@[simp] theorem wq_tup : wq (evTup fr ρ) n Q ↔ wq (fr ρ) n fun r n1 => r.length ≤ 16777216 ∧ Q (.tup r) n1 := by
  simp only [evTup, wq_bind, wq_ite, wq_pure, wq_fail]
  constructor <;> refine fun h => h.mono fun x n1 => ?_
  · intro h; split at h
    · exact ⟨by assumption, h⟩
    · exact h.elim
  · rintro ⟨h, q⟩; rw [if_pos h]; exact q
@[simp] theorem wq_lst : wq (evLst fr ρ) n Q ↔ wq (fr ρ) n fun r n1 => r.length ≤ 16777216 ∧ Q (.lst r) n1 := by
  simp only [evLst, wq_bind, wq_ite, wq_pure, wq_fail]
  constructor <;> refine fun h => h.mono fun x n1 => ?_
  · intro h; split at h
    · exact ⟨by assumption, h⟩
    · exact h.elim
  · rintro ⟨h, q⟩; rw [if_pos h]; exact q
@[simp] theorem wq_ix : wq (evIx fa fb ρ) n Q ↔ wq (fa ρ) n fun x n1 => wq (fb ρ) n1 fun y n2 => ∃ z, ixD x y = some z ∧ Q z n2 := by simp [evIx]
@[simp] theorem wq_sl : wq (evSl fa fo fo' ρ) n Q ↔ wq (fa ρ) n fun x n1 => wq (fo ρ) n1 fun l n2 => wq (fo' ρ) n2 fun h n3 => ∃ z, slD x l h = some z ∧ Q z n3 := by simp [evSl]
@[simp] theorem wq_noPart {Q : Option Int → Nat → Prop} : wq (evNoPart ρ) n Q ↔ Q none n := wq_eq rfl
@[simp] theorem wq_part {Q : Option Int → Nat → Prop} : wq (evPart fa ρ) n Q ↔ wq (fa ρ) n fun x n1 => ∃ i, x = .int i ∧ Q (some i) n1 := by
  simp only [evPart, wq_bind, wq_opt]
  constructor <;> refine fun h => h.mono fun x n1 => ?_
  · rintro ⟨a, e, q⟩
    cases x <;> simp only [partD, reduceCtorEq] at e
    cases e
    exact ⟨_, rfl, q⟩
  · rintro ⟨b, rfl, q⟩
    exact ⟨_, rfl, q⟩
@[simp] theorem wq_b {op : List D → Option D} : wq (evB op fr ρ) n Q ↔ wq (fr ρ) n fun xs n1 => ∃ z, op xs = some z ∧ Q z n1 := by simp [evB]
@[simp] theorem wq_bl {op : List D → Option (List D)} : wq (evBL op fr ρ) n Q ↔ wq (fr ρ) n fun xs n1 => ∃ z, op xs = some z ∧ Q (.lst z) n1 := by simp [evBL]
@[simp] theorem wq_isi {t : TyK} : wq (evIsi t fa ρ) n Q ↔ wq (fa ρ) n fun x n1 => ∃ b, isiD t x = some b ∧ Q (.bool b) n1 := by
  simp only [evIsi, wq_bind, wq_opt, opt_bmap]
@[simp] theorem wq_upper : wq (evUpper fa ρ) n Q ↔ wq (fa ρ) n fun x n1 => ∃ z, upperD x = some z ∧ Q z n1 := by simp [evUpper]
@[simp] theorem wq_c {C : List D → M D} : wq (evC C fr ρ) n Q ↔ wq (fr ρ) n fun xs n1 => wq (C xs) n1 Q := by simp [evC]
@[simp] theorem wq_items {Q : List D → Nat → Prop} : wq (evItems fa ρ) n Q ↔ wq (fa ρ) n fun x n1 => ∃ ds, itemsD x = some ds ∧ Q ds n1 := by simp [evItems]
@[simp] theorem wq_it {op : List D → Option (List D)} {Q : List D → Nat → Prop} : wq (evIt op fr ρ) n Q ↔ wq (fr ρ) n fun xs n1 => ∃ ds, op xs = some ds ∧ Q ds n1 := by simp [evIt]
@[simp] theorem wq_yes {Q : Bool → Nat → Prop} : wq (evYes ρ) n Q ↔ Q true n := wq_eq rfl
@[simp] theorem wq_lc {own : List Nat} {t : Tgt} {fi : Rho → M (List D)} {fcd : Rho → M Bool} : wq (evLc own t fi fcd fa ρ) n Q ↔ wq (fi ρ) n fun ds n1 => ds.length ≤ 16777216 ∧ wq (lcGo (lcBody own t fcd fa ρ) ds) n1 fun rs n2 => Q (.lst rs) n2 := by
  simp only [evLc, wq_bind, wq_ite, wq_pure, wq_fail]
  constructor <;> refine fun h => h.mono fun x n1 => ?_
  · intro h; split at h
    · exact ⟨by assumption, h⟩
    · exact h.elim
  · rintro ⟨h, q⟩; rw [if_pos h]; exact q
@[simp] theorem wq_body {own : List Nat} {t : Tgt} {fcd : Rho → M Bool} {d : D} {Q : Option D → Nat → Prop} : wq (lcBody own t fcd fa ρ d) n Q ↔ ∃ ρ', bindT t d (wipeR ρ own) = some ρ' ∧ wq (fcd ρ') n fun c n1 => if c = true then wq (fa ρ') n1 fun y n2 => Q (some y) n2 else Q none n1 := by simp [lcBody]
end

section
variable {fa : Rho → M D} {fi : Rho → M D} {ft : Rho → M Bool} {xa xb : Rho → M Out} {ρ : Rho} {n : Nat} {Q : Out → Nat → Prop}
@[simp] theorem wq_xNext : wq (xNext ρ) n Q ↔ Q (.nx ρ) n := wq_eq rfl
@[simp] theorem wq_xBreak : wq (xBreak ρ) n Q ↔ Q (.bk ρ) n := wq_eq rfl
@[simp] theorem wq_xCont : wq (xCont ρ) n Q ↔ Q (.ct ρ) n := wq_eq rfl
/-- what follows a statement -/
def Out.goq (Q : Out → Nat → Prop) (n : Nat) (k : Rho → Prop) : Out → Prop
  | .nx ρ => k ρ
  | .rt d => Q (.rt d) n
  | .bk ρ => Q (.bk ρ) n
  | .ct ρ => Q (.ct ρ) n
@[simp] theorem goq_nx {k : Rho → Prop} : Out.goq Q n k (.nx ρ) = k ρ := rfl
@[simp] theorem goq_rt {k : Rho → Prop} {d : D} : Out.goq Q n k (.rt d) = Q (.rt d) n := rfl
@[simp] theorem goq_bk {k : Rho → Prop} : Out.goq Q n k (.bk ρ) = Q (.bk ρ) n := rfl
@[simp] theorem goq_ct {k : Rho → Prop} : Out.goq Q n k (.ct ρ) = Q (.ct ρ) n := rfl
@[simp] theorem wq_xSeq : wq (xSeq xa xb ρ) n Q ↔ wq (xa ρ) n fun o n1 => o.goq Q n1 fun ρ' => wq (xb ρ') n1 Q := by
  simp only [xSeq, wq_bind]
  constructor <;> refine fun h => h.mono fun o n1 => ?_
  · intro h; cases o <;> simpa using h
  · intro h; cases o <;> simpa using h
@[simp] theorem wq_xRet : wq (xRet fa ρ) n Q ↔ wq (fa ρ) n fun d n1 => Q (.rt d) n1 := by simp [xRet]
@[simp] theorem wq_xDrop : wq (xDrop fa ρ) n Q ↔ wq (fa ρ) n fun d n1 => Q (.nx ρ) n1 := by simp [xDrop]
@[simp] theorem wq_xAsg {t : Tgt} : wq (xAsg t fa ρ) n Q ↔ wq (fa ρ) n fun d n1 => ∃ ρ', bindT t d ρ = some ρ' ∧ Q (.nx ρ') n1 := by simp [xAsg]
@[simp] theorem wq_xOwn {i : Nat} : wq (xOwn i fa ρ) n Q ↔ wq (fa ρ) n fun d n1 => Q (.nx (ρ.set i (.own d))) n1 := by simp [xOwn]
@[simp] theorem wq_xIf : wq (xIf ft xa xb ρ) n Q ↔ wq (ft ρ) n fun c n1 => if c = true then wq (xa ρ) n1 Q else wq (xb ρ) n1 Q := by simp [xIf]
def frzR (ρ : Rho) (i : Nat) : Rho := match ρ[i]? with
  | some (.own d) => ρ.set i (.val d)
  | _ => ρ
@[simp] theorem wq_xFrz {i : Nat} : wq (xFrz i ρ) n Q ↔ Q (.nx (frzR ρ i)) n := by
  refine wq_eq ?_
  unfold xFrz frzR
  cases h : ρ[i]? with
  | none => rfl
  | some s => cases s <;> rfl
@[simp] theorem wq_xApp {i : Nat} : wq (xApp i fa ρ) n Q ↔ wq (fa ρ) n fun d n1 => ∃ ρ', appR ρ i d = some ρ' ∧ Q (.nx ρ') n1 := by simp [xApp]
@[simp] theorem wq_xSet {i : Nat} : wq (xSet i fi fa ρ) n Q ↔ wq (fa ρ) n fun d n1 => wq (fi ρ) n1 fun k n2 => ∃ ρ', setR ρ i k d = some ρ' ∧ Q (.nx ρ') n2 := by simp [xSet]
@[simp] theorem wq_xAug {i : Nat} {o : BinO} : wq (xAug i o fa ρ) n Q ↔ ∃ x, ρ[i]? = some (.val x) ∧ wq (fa ρ) n fun d n1 => ∃ y, augD o x d = some y ∧ Q (.nx (ρ.set i (.val y))) n1 := by simp [xAug]
@[simp] theorem wq_xFor {t : Tgt} {fit : Rho → M (List D)} : wq (xFor t fit xa ρ) n Q ↔ wq (fit ρ) n fun ds n1 => wq (forGo (forBody t xa) ds ρ) n1 Q := by simp [xFor]
@[simp] theorem wq_forBody {t : Tgt} {d : D} : wq (forBody t xa d ρ) n Q ↔ ∃ ρ', bindT t d ρ = some ρ' ∧ wq (xa ρ') n Q := by simp [forBody]
@[simp] theorem wq_runF {o : Out} {Q : D → Nat → Prop} : wq (runF o) n Q ↔ o.goq (fun o n => match o with | .rt d => Q d n | _ => False) n (fun _ => Q .none n) := by
  cases o <;> simp [runF]

/-! ### loops -/
theorem wq_for_nil {fb : D → Rho → M Out} : wq (forGo fb [] ρ) n Q ↔ Q (.nx ρ) n := wq_eq rfl
/-- a loop, by what holds between its turns: I turn slots draws -/
theorem wq_for {fb : D → Rho → M Out} (I : Nat → Rho → Nat → Prop) {ds : List D} (h0 : I 0 ρ n)
    (turn : ∀ i d ρ n, ds[i]? = some d → I i ρ n → wq (fb d ρ) n fun o n1 => match o with
      | .nx ρ' => I (i + 1) ρ' n1
      | .ct ρ' => I (i + 1) ρ' n1
      | .bk ρ' => Q (.nx ρ') n1
      | .rt r => Q (.rt r) n1)
    (hd : ∀ ρ n, I ds.length ρ n → Q (.nx ρ) n) : wq (forGo fb ds ρ) n Q := by
  have go : ∀ (m i : Nat) (ρ : Rho) (n : Nat), m + i = ds.length → I i ρ n → wq (forGo fb (ds.drop i) ρ) n Q := by
    intro m
    induction m with
    | zero =>
      intro i ρ n e hI
      have : i = ds.length := by omega
      subst this
      rw [List.drop_length]
      exact wq_for_nil.mpr (hd ρ n hI)
    | succ m ih =>
      intro i ρ n e hI
      have hi : i < ds.length := by omega
      rw [List.drop_eq_getElem_cons hi]
      show wq (fb ds[i] ρ >>= _) n Q
      rw [wq_bind]
      refine (turn i ds[i] ρ n (by simp [hi]) hI).mono fun o n1 h => ?_
      cases o with
      | nx ρ' => exact ih (i + 1) ρ' n1 (by omega) h
      | ct ρ' => exact ih (i + 1) ρ' n1 (by omega) h
      | bk ρ' => exact wq_pure.mpr h
      | rt r => exact wq_pure.mpr h
  simpa using go ds.length 0 ρ n (by omega) h0
/-- a list comprehension, likewise: I turn list draws -/
theorem wq_lcGo {body : D → M (Option D)} {Q : List D → Nat → Prop} (I : Nat → List D → Nat → Prop) {ds : List D} (h0 : I 0 [] n)
    (turn : ∀ i d acc n, ds[i]? = some d → I i acc n → wq (body d) n fun r n1 => I (i + 1) (acc ++ r.toList) n1)
    (hd : ∀ rs n, I ds.length rs n → Q rs n) : wq (lcGo body ds) n Q := by
  have go : ∀ (m i : Nat) (acc : List D) (n : Nat), m + i = ds.length → I i acc n → wq (lcGo body (ds.drop i)) n fun rs n' => Q (acc ++ rs) n' := by
    intro m
    induction m with
    | zero =>
      intro i acc n e hI
      have : i = ds.length := by omega
      subst this
      rw [List.drop_length]
      refine wq_of rfl ?_
      rw [List.append_nil]
      exact hd acc n hI
    | succ m ih =>
      intro i acc n e hI
      have hi : i < ds.length := by omega
      rw [List.drop_eq_getElem_cons hi]
      show wq (body ds[i] >>= _) n _
      rw [wq_bind]
      refine (turn i ds[i] acc n (by simp [hi]) hI).mono fun r n1 h => ?_
      rw [wq_bind]
      refine (ih (i + 1) _ n1 (by omega) h).mono fun rs n2 q => ?_
      rw [wq_pure, ← List.append_assoc]
      exact q
  have := go ds.length 0 [] n (by omega) h0
  simpa using this
/-- .. where no turn draws, and each is a function of its item -/
theorem lcGo_fun {body : D → M (Option D)} (f : D → Option D) : ∀ {ds : List D}, (∀ d ∈ ds, body d n = some (f d, n)) → lcGo body ds n = some (ds.filterMap f, n)
  | [], _ => rfl
  | d :: ds, h => by
    show (body d >>= _) n = _
    rw [M.bind_ap, h d List.mem_cons_self]
    show (lcGo body ds >>= _) n = _
    rw [M.bind_ap, lcGo_fun f fun d' hd => h d' (List.mem_cons_of_mem _ hd)]
    show some (_, n) = _
    rw [List.filterMap_cons]
    cases f d <;> rfl
theorem wq_lc_fun {body : D → M (Option D)} {ds : List D} {Q : List D → Nat → Prop} (f : D → Option D) (h : ∀ d ∈ ds, wq (body d) n fun r m => r = f d ∧ m = n) (q : Q (ds.filterMap f) n) : wq (lcGo body ds) n Q :=
  wq_of (lcGo_fun f fun d hd => wq_out (h d hd)) q
theorem filterMap_some {α β : Type} (f : α → β) (l : List α) : l.filterMap (fun x => some (f x)) = l.map f := by
  induction l with
  | nil => rfl
  | cons a l ih => simp [ih]
theorem wq_lc_map {body : D → M (Option D)} {ds : List D} {Q : List D → Nat → Prop} (f : D → D) (h : ∀ d ∈ ds, wq (body d) n fun r m => r = some (f d) ∧ m = n) (q : Q (ds.map f) n) : wq (lcGo body ds) n Q :=
  wq_lc_fun (fun d => some (f d)) h (by rw [filterMap_some]; exact q)
theorem wq_while_turn {ft : Rho → M Bool} {fb : Rho → M Out} {k : Nat} : wq (whileGo ft fb (k + 1) ρ) n Q ↔ wq (ft ρ) n fun c n1 => if c = true then wq (fb ρ) n1 (fun o n2 => match o with
      | .nx ρ' => wq (whileGo ft fb k ρ') n2 Q
      | .ct ρ' => wq (whileGo ft fb k ρ') n2 Q
      | .bk ρ' => Q (.nx ρ') n2
      | .rt r => Q (.rt r) n2) else Q (.nx ρ) n1 := by
  show wq (ft ρ >>= _) n Q ↔ _
  rw [wq_bind]
  constructor <;> refine fun h => h.mono fun c n1 h => ?_
  · cases c with
    | false => simpa using h
    | true =>
      simp only [if_true, wq_bind] at h ⊢
      refine h.mono fun o n2 h => ?_
      cases o <;> simpa using h
  · cases c with
    | false => simpa using h
    | true =>
      simp only [if_true, wq_bind] at h ⊢
      refine h.mono fun o n2 h => ?_
      cases o <;> simpa using h
/-- a while, by what holds between its turns and a number that falls -/
theorem wq_while {ft : Rho → M Bool} {fb : Rho → M Out} (I : Rho → Nat → Prop) (μ : Rho → Nat) (h0 : I ρ n) (hμ : μ ρ < WFUEL)
    (turn : ∀ ρ n, I ρ n → wq (ft ρ) n fun c n1 => if c = true then wq (fb ρ) n1 (fun o n2 => match o with
      | .nx ρ' => I ρ' n2 ∧ μ ρ' < μ ρ
      | .ct ρ' => I ρ' n2 ∧ μ ρ' < μ ρ
      | .bk ρ' => Q (.nx ρ') n2
      | .rt r => Q (.rt r) n2) else Q (.nx ρ) n1) : wq (xWhile ft fb ρ) n Q := by
  have go : ∀ (k : Nat) (ρ : Rho) (n : Nat), μ ρ < k → I ρ n → wq (whileGo ft fb k ρ) n Q := by
    intro k
    induction k with
    | zero => intro ρ n h; omega
    | succ k ih =>
      intro ρ n hk hI
      rw [wq_while_turn]
      refine (turn ρ n hI).mono fun c n1 h => ?_
      cases c with
      | false => simpa using h
      | true =>
        simp only [if_true] at h ⊢
        refine h.mono fun o n2 h => ?_
        cases o with
        | nx ρ' => exact ih ρ' n2 (by omega) h.1
        | ct ρ' => exact ih ρ' n2 (by omega) h.1
        | bk ρ' => exact h
        | rt r => exact h
  exact go WFUEL ρ n hμ h0
end

/-! ### calls -/
theorem wq_def {T : Tab} {k f : Nat} {fd : FD} {ds : List D} {n : Nat} {Q : D → Nat → Prop} (h : T.lookup f = some (.defn fd)) (hl : ds.length = fd.np) :
    wq (callF T (k + 1) f ds) n Q ↔ wq (xSs (callF T k) fd.body (rho0 fd.N ds)) n fun o n1 => o.goq (fun o n => match o with | .rt d => Q d n | _ => False) n1 (fun _ => Q .none n1) := by
  have e : callF T (k + 1) f ds = (do let o ← xSs (callF T k) fd.body (rho0 fd.N ds); runF o) := by
    conv => lhs; unfold callF
    rw [h]
    simp only
    rw [if_pos hl]
  rw [e, wq_bind]
  simp only [wq_runF]
theorem wq_prim {T : Tab} {k f : Nat} {c : List D → M D} {ds : List D} {n : Nat} {Q : D → Nat → Prop} (h : T.lookup f = some (.prim c)) : wq (callF T (k + 1) f ds) n Q ↔ wq (c ds) n Q := by
  conv => lhs; unfold callF
  rw [h]
/-- a draw: any number below m -/
theorem wq_draw {rows : List Int} {n : Nat} {m : Int} {Q : D → Nat → Prop} (hm : 0 < m) (hr : 0 < rows.length ∧ rows.length < 1073741824) (hn : n < 1152921504606846976) (h : ∀ i, 0 ≤ i → i < m → Q (.int i) (n + 1)) : wq (drawC rows [.pool, .int m]) n Q := by
  refine wq_of (a := .int (drawI rows n m)) (n' := n + 1) ?_ (h _ ?_ ?_)
  · unfold drawC
    simp only
    rw [if_pos ⟨hm, hr.1, hr.2, hn⟩]
  · unfold drawI
    rw [Int.fmod_eq_emod_of_nonneg _ (by omega)]
    exact Int.emod_nonneg _ (by omega)
  · unfold drawI
    rw [Int.fmod_eq_emod_of_nonneg _ (by omega)]
    exact Int.emod_lt_of_pos _ hm
end Ev

set_option Elab.async false
set_option linter.all false
set_option autoImplicit false
set_option maxRecDepth 100000
/-! Ev12: equations of the evaluation, for simp. -/
namespace Ev
open PySem PySem.Spec PyProof.Rows L2

/-- keeps simp out of what it marks -/
inductive Tg {α : Type} (a : α) : Type
  | mk
def wp {α : Type} (x : M α) (n : Nat) (Q : α → Nat → Prop) (_t : Tg Q := .mk) : Prop := wq x n Q
theorem wp.mono {α : Type} {x : M α} {n : Nat} {Q Q' : α → Nat → Prop} (h : wp x n Q) (k : ∀ a n', Q a n' → Q' a n') : wp x n Q' := wq.mono h k
theorem wp_out {α : Type} {x : M α} {n n' : Nat} {a : α} (h : wp x n fun b m => b = a ∧ m = n') : x n = some (a, n') := wq_out h
theorem wp_eq {α : Type} {x : M α} {n n' : Nat} {a : α} {Q : α → Nat → Prop} (e : x n = some (a, n')) : wp x n Q ↔ Q a n' := wq_eq e
theorem lcGo_fun' {body : D → M (Option D)} {n : Nat} (f : D → Option D) {ds : List D} (h : ∀ d ∈ ds, body d n = some (f d, n)) : lcGo body ds n = some (ds.filterMap f, n) := lcGo_fun f h
def Out.go (Q : Out → Nat → Prop) (n : Nat) (k : Rho → Prop) (o : Out) (_t : Tg (Q, k) := .mk) : Prop := o.goq Q n k
section
variable {Q : Out → Nat → Prop} {n : Nat}
@[simp] theorem go_nx {k : Rho → Prop} {ρ : Rho} : Out.go Q n k (.nx ρ) = k ρ := rfl
@[simp] theorem go_rt {k : Rho → Prop} {d : D} : Out.go Q n k (.rt d) = Q (.rt d) n := rfl
@[simp] theorem go_bk {k : Rho → Prop} {ρ : Rho} : Out.go Q n k (.bk ρ) = Q (.bk ρ) n := rfl
@[simp] theorem go_ct {k : Rho → Prop} {ρ : Rho} : Out.go Q n k (.ct ρ) = Q (.ct ρ) n := rfl
end
/-- an option's value, and what follows: simp looks into the value alone -/
def Ex1 {α : Type} (o : Option α) (Q : α → Prop) (_t : Tg Q := .mk) : Prop := ∃ a, o = some a ∧ Q a
theorem ex1_of {α : Type} {o : Option α} {Q : α → Prop} {a : α} (h : o = some a) (q : Q a) : Ex1 o Q := ⟨a, h, q⟩
@[simp] theorem ex1_some {α : Type} {Q : α → Prop} {a : α} : Ex1 (some a) Q ↔ Q a := ⟨fun ⟨b, h, q⟩ => by cases h; exact q, fun q => ⟨a, rfl, q⟩⟩
@[simp] theorem ex1_none {α : Type} {Q : α → Prop} : Ex1 none Q ↔ False := ⟨fun ⟨b, h, q⟩ => (by cases h), False.elim⟩
@[simp] theorem ex1_ite {α : Type} {Q : α → Prop} {a : α} {c : Prop} [Decidable c] : Ex1 (if c then some a else none) Q ↔ c ∧ Q a := by
  split
  · rename_i h; rw [ex1_some]; exact ⟨fun q => ⟨h, q⟩, fun q => q.2⟩
  · rename_i h; rw [ex1_none]; exact ⟨False.elim, fun q => h q.1⟩
@[simp] theorem ex1_map {α β : Type} {o : Option α} {f : α → β} {Q : β → Prop} : Ex1 (o.map f) Q ↔ Ex1 o fun a => Q (f a) := by
  cases o
  · simp only [Option.map_none, ex1_none]
  · simp only [Option.map_some, ex1_some]
@[simp] theorem ex1_bind {α β : Type} {o : Option α} {f : α → Option β} {Q : β → Prop} : Ex1 (o.bind f) Q ↔ Ex1 o fun a => Ex1 (f a) Q := by
  cases o
  · simp only [Option.bind_none, ex1_none]
  · simp only [Option.bind_some, ex1_some]
def boolD : D → Option Bool
  | .bool b => some b
  | _ => none
def intO : D → Option Int
  | .int i => some i
  | _ => none
def valR : Option Sl → Option D
  | some (.val d) => some d
  | _ => none
@[simp] theorem boolD_b {b : Bool} : boolD (.bool b) = some b := rfl
@[simp] theorem intO_i {i : Int} : intO (.int i) = some i := rfl
@[simp] theorem valR_v {d : D} : valR (some (.val d)) = some d := rfl
theorem ex1_bool {x : D} {P : Bool → Prop} : (∃ b, x = .bool b ∧ P b) ↔ Ex1 (boolD x) P := by
  constructor
  · rintro ⟨b, rfl, q⟩; exact ⟨b, rfl, q⟩
  · rintro ⟨b, h, q⟩; cases x <;> cases h; exact ⟨_, rfl, q⟩
theorem ex1_int {x : D} {P : Int → Prop} : (∃ b, x = .int b ∧ P b) ↔ Ex1 (intO x) P := by
  constructor
  · rintro ⟨b, rfl, q⟩; exact ⟨b, rfl, q⟩
  · rintro ⟨b, h, q⟩; cases x <;> cases h; exact ⟨_, rfl, q⟩
theorem ex1_val {x : Option Sl} {P : D → Prop} : (∃ d, x = some (.val d) ∧ P d) ↔ Ex1 (valR x) P := by
  constructor
  · rintro ⟨b, rfl, q⟩; exact ⟨b, rfl, q⟩
  · rintro ⟨b, h, q⟩
    cases x with
    | none => cases h
    | some s => cases s <;> cases h; exact ⟨_, rfl, q⟩
theorem wp_of {α : Type} {x : M α} {n n' : Nat} {a : α} {Q : α → Nat → Prop} (e : x n = some (a, n')) (q : Q a n') : wp x n Q := wq_of e q
@[simp] theorem wp_pure {α : Type} {a : α} {n : Nat} {Q : α → Nat → Prop} : wp (pure a : M α) n Q ↔ Q a n := wq_pure
@[simp] theorem wp_ret {α : Type} {a : α} {n : Nat} {Q : α → Nat → Prop} : wp (M.ret a : M α) n Q ↔ Q a n := wq_ret
@[simp] theorem wp_fail {α : Type} {n : Nat} {Q : α → Nat → Prop} : wp (M.fail : M α) n Q ↔ False := wq_fail
@[simp] theorem wp_bind {α β : Type} {x : M α} {f : α → M β} {n : Nat} {Q : β → Nat → Prop} : wp (x >>= f) n Q ↔ wp x n fun a n' => wp (f a) n' Q := wq_bind
@[simp] theorem wp_opt {α : Type} {o : Option α} {n : Nat} {Q : α → Nat → Prop} : wp (M.opt o) n Q ↔ Ex1 (o) fun a => Q a n := wq_opt
@[simp] theorem wp_ite {α : Type} {c : Prop} [Decidable c] {x y : M α} {n : Nat} {Q : α → Nat → Prop} : wp (if c then x else y) n Q ↔ if c then wp x n Q else wp y n Q := wq_ite
section
variable {fa fb fc : Rho → M D} {ft : Rho → M Bool} {fr : Rho → M (List D)} {fo fo' : Rho → M (Option Int)} {ρ : Rho} {n : Nat} {Q : D → Nat → Prop}
@[simp] theorem wp_bin {o : BinO} : wp (evBin o fa fb ρ) n Q ↔ wp (fa ρ) n fun x n1 => wp (fb ρ) n1 fun y n2 => Ex1 (binD o x y) fun z => Q z n2 := wq_bin
@[simp] theorem wp_cmp {o : CmpO} : wp (evCmp o fa fb ρ) n Q ↔ wp (fa ρ) n fun x n1 => wp (fb ρ) n1 fun y n2 => Ex1 (cmpD o x y) fun z => Q (.bool z) n2 := wq_cmp
@[simp] theorem wp_chain {o o' : CmpO} : wp (evChain o o' fa fb fc ρ) n Q ↔ wp (fa ρ) n fun x n1 => wp (fb ρ) n1 fun y n2 => Ex1 (cmpD o x y) fun c => if c = true then wp (fc ρ) n2 fun z n3 => Ex1 (cmpD o' y z) fun r => Q (.bool r) n3 else Q (.bool false) n2 := wq_chain
@[simp] theorem wp_tst {Q : Bool → Nat → Prop} : wp (tst fa ρ) n Q ↔ wp (fa ρ) n fun x n1 => Ex1 (truD x) fun b => Q b n1 := wq_tst
@[simp] theorem wp_not : wp (evNot fa ρ) n Q ↔ wp (fa ρ) n fun x n1 => Ex1 (boolD x) fun b => Q (.bool (!b)) n1 := (wq_not).trans (by simp only [ex1_bool] <;> exact Iff.rfl)
@[simp] theorem wp_and : wp (evAnd fa fb ρ) n Q ↔ wp (fa ρ) n fun x n1 => Ex1 (boolD x) fun b => if b = true then wp (fb ρ) n1 Q else Q (.bool false) n1 := (wq_and).trans (by simp only [ex1_bool] <;> exact Iff.rfl)
@[simp] theorem wp_or : wp (evOr fa fb ρ) n Q ↔ wp (fa ρ) n fun x n1 => Ex1 (boolD x) fun b => if b = true then Q (.bool true) n1 else wp (fb ρ) n1 Q := (wq_or).trans (by simp only [ex1_bool] <;> exact Iff.rfl)
@[simp] theorem wp_if : wp (evIf ft fa fb ρ) n Q ↔ wp (ft ρ) n fun c n1 => if c = true then wp (fa ρ) n1 Q else wp (fb ρ) n1 Q := wq_if
@[simp] theorem wp_neg : wp (evNeg fa ρ) n Q ↔ wp (fa ρ) n fun x n1 => Ex1 (negD x) fun z => Q z n1 := wq_neg
@[simp] theorem wp_getV {i : Nat} : wp (getV i ρ) n Q ↔ Ex1 (valR ρ[i]?) fun d => Q d n := (wq_getV).trans (by simp only [ex1_val] <;> exact Iff.rfl)
@[simp] theorem wp_getP {i : Nat} : wp (getP i ρ) n Q ↔ Ex1 (datR ρ[i]?) fun d => Q d n := wq_getP
@[simp] theorem wp_cst {d : D} : wp (cst d ρ) n Q ↔ Q d n := wq_cst
@[simp] theorem wp_nil {Q : List D → Nat → Prop} : wp (evNil ρ) n Q ↔ Q [] n := wq_nil
@[simp] theorem wp_cons {Q : List D → Nat → Prop} : wp (evCons fa fr ρ) n Q ↔ wp (fa ρ) n fun x n1 => wp (fr ρ) n1 fun r n2 => Q (x :: r) n2 := wq_cons
@[simp] theorem wp_tup : wp (evTup fr ρ) n Q ↔ wp (fr ρ) n fun r n1 => r.length ≤ 16777216 ∧ Q (.tup r) n1 := wq_tup
@[simp] theorem wp_lst : wp (evLst fr ρ) n Q ↔ wp (fr ρ) n fun r n1 => r.length ≤ 16777216 ∧ Q (.lst r) n1 := wq_lst
@[simp] theorem wp_ix : wp (evIx fa fb ρ) n Q ↔ wp (fa ρ) n fun x n1 => wp (fb ρ) n1 fun y n2 => Ex1 (ixD x y) fun z => Q z n2 := wq_ix
@[simp] theorem wp_sl : wp (evSl fa fo fo' ρ) n Q ↔ wp (fa ρ) n fun x n1 => wp (fo ρ) n1 fun l n2 => wp (fo' ρ) n2 fun h n3 => Ex1 (slD x l h) fun z => Q z n3 := wq_sl
@[simp] theorem wp_noPart {Q : Option Int → Nat → Prop} : wp (evNoPart ρ) n Q ↔ Q none n := wq_noPart
@[simp] theorem wp_part {Q : Option Int → Nat → Prop} : wp (evPart fa ρ) n Q ↔ wp (fa ρ) n fun x n1 => Ex1 (intO x) fun i => Q (some i) n1 := (wq_part).trans (by simp only [ex1_int] <;> exact Iff.rfl)
@[simp] theorem wp_b {op : List D → Option D} : wp (evB op fr ρ) n Q ↔ wp (fr ρ) n fun xs n1 => Ex1 (op xs) fun z => Q z n1 := wq_b
@[simp] theorem wp_bl {op : List D → Option (List D)} : wp (evBL op fr ρ) n Q ↔ wp (fr ρ) n fun xs n1 => Ex1 (op xs) fun z => Q (.lst z) n1 := wq_bl
@[simp] theorem wp_isi {t : TyK} : wp (evIsi t fa ρ) n Q ↔ wp (fa ρ) n fun x n1 => Ex1 (isiD t x) fun b => Q (.bool b) n1 := wq_isi
@[simp] theorem wp_upper : wp (evUpper fa ρ) n Q ↔ wp (fa ρ) n fun x n1 => Ex1 (upperD x) fun z => Q z n1 := wq_upper
@[simp] theorem wp_c {C : List D → M D} : wp (evC C fr ρ) n Q ↔ wp (fr ρ) n fun xs n1 => wp (C xs) n1 Q := wq_c
@[simp] theorem wp_items {Q : List D → Nat → Prop} : wp (evItems fa ρ) n Q ↔ wp (fa ρ) n fun x n1 => Ex1 (itemsD x) fun ds => Q ds n1 := wq_items
@[simp] theorem wp_it {op : List D → Option (List D)} {Q : List D → Nat → Prop} : wp (evIt op fr ρ) n Q ↔ wp (fr ρ) n fun xs n1 => Ex1 (op xs) fun ds => Q ds n1 := wq_it
@[simp] theorem wp_yes {Q : Bool → Nat → Prop} : wp (evYes ρ) n Q ↔ Q true n := wq_yes
@[simp] theorem wp_lc {own : List Nat} {t : Tgt} {fi : Rho → M (List D)} {fcd : Rho → M Bool} : wp (evLc own t fi fcd fa ρ) n Q ↔ wp (fi ρ) n fun ds n1 => ds.length ≤ 16777216 ∧ wp (lcGo (lcBody own t fcd fa ρ) ds) n1 fun rs n2 => Q (.lst rs) n2 := wq_lc
@[simp] theorem wp_body {own : List Nat} {t : Tgt} {fcd : Rho → M Bool} {d : D} {Q : Option D → Nat → Prop} : wp (lcBody own t fcd fa ρ d) n Q ↔ Ex1 (bindT t d (wipeR ρ own)) fun ρ' => wp (fcd ρ') n fun c n1 => if c = true then wp (fa ρ') n1 fun y n2 => Q (some y) n2 else Q none n1 := wq_body
end
section
variable {fa : Rho → M D} {fi : Rho → M D} {ft : Rho → M Bool} {xa xb : Rho → M Out} {ρ : Rho} {n : Nat} {Q : Out → Nat → Prop}
@[simp] theorem wp_xNext : wp (xNext ρ) n Q ↔ Q (.nx ρ) n := wq_xNext
@[simp] theorem wp_xBreak : wp (xBreak ρ) n Q ↔ Q (.bk ρ) n := wq_xBreak
@[simp] theorem wp_xCont : wp (xCont ρ) n Q ↔ Q (.ct ρ) n := wq_xCont
@[simp] theorem wp_xSeq : wp (xSeq xa xb ρ) n Q ↔ wp (xa ρ) n fun o n1 => o.go Q n1 fun ρ' => wp (xb ρ') n1 Q := wq_xSeq
@[simp] theorem wp_xRet : wp (xRet fa ρ) n Q ↔ wp (fa ρ) n fun d n1 => Q (.rt d) n1 := wq_xRet
@[simp] theorem wp_xDrop : wp (xDrop fa ρ) n Q ↔ wp (fa ρ) n fun d n1 => Q (.nx ρ) n1 := wq_xDrop
@[simp] theorem wp_xAsg {t : Tgt} : wp (xAsg t fa ρ) n Q ↔ wp (fa ρ) n fun d n1 => Ex1 (bindT t d ρ) fun ρ' => Q (.nx ρ') n1 := wq_xAsg
@[simp] theorem wp_xOwn {i : Nat} : wp (xOwn i fa ρ) n Q ↔ wp (fa ρ) n fun d n1 => Q (.nx (ρ.set i (.own d))) n1 := wq_xOwn
@[simp] theorem wp_xIf : wp (xIf ft xa xb ρ) n Q ↔ wp (ft ρ) n fun c n1 => if c = true then wp (xa ρ) n1 Q else wp (xb ρ) n1 Q := wq_xIf
@[simp] theorem wp_xFrz {i : Nat} : wp (xFrz i ρ) n Q ↔ Q (.nx (frzR ρ i)) n := wq_xFrz
@[simp] theorem wp_xApp {i : Nat} : wp (xApp i fa ρ) n Q ↔ wp (fa ρ) n fun d n1 => Ex1 (appR ρ i d) fun ρ' => Q (.nx ρ') n1 := wq_xApp
@[simp] theorem wp_xSet {i : Nat} : wp (xSet i fi fa ρ) n Q ↔ wp (fa ρ) n fun d n1 => wp (fi ρ) n1 fun k n2 => Ex1 (setR ρ i k d) fun ρ' => Q (.nx ρ') n2 := wq_xSet
@[simp] theorem wp_xAug {i : Nat} {o : BinO} : wp (xAug i o fa ρ) n Q ↔ Ex1 (valR ρ[i]?) fun x => wp (fa ρ) n fun d n1 => Ex1 (augD o x d) fun y => Q (.nx (ρ.set i (.val y))) n1 := (wq_xAug).trans (by simp only [ex1_val] <;> exact Iff.rfl)
@[simp] theorem wp_xFor {t : Tgt} {fit : Rho → M (List D)} : wp (xFor t fit xa ρ) n Q ↔ wp (fit ρ) n fun ds n1 => wp (forGo (forBody t xa) ds ρ) n1 Q := wq_xFor
@[simp] theorem wp_forBody {t : Tgt} {d : D} : wp (forBody t xa d ρ) n Q ↔ Ex1 (bindT t d ρ) fun ρ' => wp (xa ρ') n Q := wq_forBody
@[simp] theorem wp_runF {o : Out} {Q : D → Nat → Prop} : wp (runF o) n Q ↔ o.go (fun o n => match o with | .rt d => Q d n | _ => False) n (fun _ => Q .none n) := wq_runF
theorem wp_for_nil {fb : D → Rho → M Out} : wp (forGo fb [] ρ) n Q ↔ Q (.nx ρ) n := wq_for_nil
theorem wp_for {fb : D → Rho → M Out} (I : Nat → Rho → Nat → Prop) {ds : List D} (h0 : I 0 ρ n)
    (turn : ∀ i d ρ n, ds[i]? = some d → I i ρ n → wp (fb d ρ) n fun o n1 => match o with
      | .nx ρ' => I (i + 1) ρ' n1
      | .ct ρ' => I (i + 1) ρ' n1
      | .bk ρ' => Q (.nx ρ') n1
      | .rt r => Q (.rt r) n1)
    (hd : ∀ ρ n, I ds.length ρ n → Q (.nx ρ) n) : wp (forGo fb ds ρ) n Q := wq_for I h0 turn hd
theorem wp_lcGo {body : D → M (Option D)} {Q : List D → Nat → Prop} (I : Nat → List D → Nat → Prop) {ds : List D} (h0 : I 0 [] n)
    (turn : ∀ i d acc n, ds[i]? = some d → I i acc n → wp (body d) n fun r n1 => I (i + 1) (acc ++ r.toList) n1)
    (hd : ∀ rs n, I ds.length rs n → Q rs n) : wp (lcGo body ds) n Q := wq_lcGo I h0 turn hd
theorem wp_lc_fun {body : D → M (Option D)} {ds : List D} {Q : List D → Nat → Prop} (f : D → Option D) (h : ∀ d ∈ ds, wp (body d) n fun r m => r = f d ∧ m = n) (q : Q (ds.filterMap f) n) : wp (lcGo body ds) n Q := wq_lc_fun f h q
theorem wp_lc_map {body : D → M (Option D)} {ds : List D} {Q : List D → Nat → Prop} (f : D → D) (h : ∀ d ∈ ds, wp (body d) n fun r m => r = some (f d) ∧ m = n) (q : Q (ds.map f) n) : wp (lcGo body ds) n Q := wq_lc_map f h q
theorem wp_while_turn {ft : Rho → M Bool} {fb : Rho → M Out} {k : Nat} : wp (whileGo ft fb (k + 1) ρ) n Q ↔ wp (ft ρ) n fun c n1 => if c = true then wp (fb ρ) n1 (fun o n2 => match o with
      | .nx ρ' => wp (whileGo ft fb k ρ') n2 Q
      | .ct ρ' => wp (whileGo ft fb k ρ') n2 Q
      | .bk ρ' => Q (.nx ρ') n2
      | .rt r => Q (.rt r) n2) else Q (.nx ρ) n1 := wq_while_turn
theorem wp_while {ft : Rho → M Bool} {fb : Rho → M Out} (I : Rho → Nat → Prop) (μ : Rho → Nat) (h0 : I ρ n) (hμ : μ ρ < WFUEL)
    (turn : ∀ ρ n, I ρ n → wp (ft ρ) n fun c n1 => if c = true then wp (fb ρ) n1 (fun o n2 => match o with
      | .nx ρ' => I ρ' n2 ∧ μ ρ' < μ ρ
      | .ct ρ' => I ρ' n2 ∧ μ ρ' < μ ρ
      | .bk ρ' => Q (.nx ρ') n2
      | .rt r => Q (.rt r) n2) else Q (.nx ρ) n1) : wp (xWhile ft fb ρ) n Q := wq_while I μ h0 hμ turn
end
theorem wp_def {T : Tab} {k f : Nat} {fd : FD} {ds : List D} {n : Nat} {Q : D → Nat → Prop} (h : T.lookup f = some (.defn fd)) (hl : ds.length = fd.np) :
    wp (callF T (k + 1) f ds) n Q ↔ wp (xSs (callF T k) fd.body (rho0 fd.N ds)) n fun o n1 => o.go (fun o n => match o with | .rt d => Q d n | _ => False) n1 (fun _ => Q .none n1) := wq_def h hl
theorem wp_prim {T : Tab} {k f : Nat} {c : List D → M D} {ds : List D} {n : Nat} {Q : D → Nat → Prop} (h : T.lookup f = some (.prim c)) : wp (callF T (k + 1) f ds) n Q ↔ wp (c ds) n Q := wq_prim h
theorem wp_draw {rows : List Int} {n : Nat} {m : Int} {Q : D → Nat → Prop} (hm : 0 < m) (hr : 0 < rows.length ∧ rows.length < 1073741824) (hn : n < 1152921504606846976) (h : ∀ i, 0 ≤ i → i < m → Q (.int i) (n + 1)) : wp (drawC rows [.pool, .int m]) n Q := wq_draw hm hr hn h
section
variable {C : Nat → List D → M D} {e a b c l h x : E} {es : Es} {o o' : CmpO} {s : S} {ss ss' : Ss} {t : Tgt} {it : It}
@[simp] theorem ev_0 {i : Nat} : ev C (.var i) = getV i := rfl
@[simp] theorem ev_1 {i : Nat} : ev C (.pk i) = getP i := rfl
@[simp] theorem ev_2 {i : Int} : ev C (.int i) = cst (.int i) := rfl
@[simp] theorem ev_3 {i : Bool} : ev C (.bool i) = cst (.bool i) := rfl
@[simp] theorem ev_4  : ev C .none = cst .none := rfl
@[simp] theorem ev_5 {i : Str} : ev C (.str i) = cst (.str i) := rfl
@[simp] theorem ev_6 {y : Str} {d : D} : ev C (.glob y d) = cst d := rfl
@[simp] theorem ev_7  : ev C (.tup es) = evTup (evs C es) := rfl
@[simp] theorem ev_8  : ev C (.lst es) = evLst (evs C es) := rfl
@[simp] theorem ev_9 {o : BinO} : ev C (.bin o a b) = evBin o (ev C a) (ev C b) := rfl
@[simp] theorem ev_10  : ev C (.neg a) = evNeg (ev C a) := rfl
@[simp] theorem ev_11  : ev C (.not a) = evNot (ev C a) := rfl
@[simp] theorem ev_12  : ev C (.and es) = evAnds C es := rfl
@[simp] theorem ev_13  : ev C (.or es) = evOrs C es := rfl
@[simp] theorem ev_14  : ev C (.cmp o a b) = evCmp o (ev C a) (ev C b) := rfl
@[simp] theorem ev_15  : ev C (.chain o o' a b c) = evChain o o' (ev C a) (ev C b) (ev C c) := rfl
@[simp] theorem ev_16  : ev C (.ite c a b) = evIf (tst (ev C c)) (ev C a) (ev C b) := rfl
@[simp] theorem ev_17  : ev C (.ix a b) = evIx (ev C a) (ev C b) := rfl
@[simp] theorem ev_18  : ev C (.slU a h) = evSl (ev C a) evNoPart (evPart (ev C h)) := rfl
@[simp] theorem ev_19  : ev C (.slL a l) = evSl (ev C a) (evPart (ev C l)) evNoPart := rfl
@[simp] theorem ev_20  : ev C (.slLU a l h) = evSl (ev C a) (evPart (ev C l)) (evPart (ev C h)) := rfl
@[simp] theorem ev_21  : ev C (.slA a) = evSl (ev C a) evNoPart evNoPart := rfl
@[simp] theorem ev_22 {i : Bi} : ev C (.bi i es) = evB i.op (evs C es) := rfl
@[simp] theorem ev_23 {i : Bf} : ev C (.bf i es) = evBL i.op (evs C es) := rfl
@[simp] theorem ev_24 {i : TyK} : ev C (.isi i a) = evIsi i (ev C a) := rfl
@[simp] theorem ev_25  : ev C (.upper a) = evUpper (ev C a) := rfl
@[simp] theorem ev_26 {i : Nat} : ev C (.call i es) = evC (C i) (evs C es) := rfl
@[simp] theorem ev_27 {own : List (Str × Nat)} : ev C (.lc own t it es e) = evLc (own.map (·.2)) t (evI C it) (evCond C es) (ev C e) := rfl
@[simp] theorem evx_0  : evs C .nil = evNil := rfl
@[simp] theorem evx_1  : evs C (.cons e es) = evCons (ev C e) (evs C es) := rfl
@[simp] theorem evx_2  : evAnds C (.cons e .nil) = ev C e := rfl
@[simp] theorem evx_3  : evAnds C (.cons e (.cons a es)) = evAnd (ev C e) (evAnds C (.cons a es)) := rfl
@[simp] theorem evx_4  : evOrs C (.cons e .nil) = ev C e := rfl
@[simp] theorem evx_5  : evOrs C (.cons e (.cons a es)) = evOr (ev C e) (evOrs C (.cons a es)) := rfl
@[simp] theorem evx_6  : evI C (.seq e) = evItems (ev C e) := rfl
@[simp] theorem evx_7  : evI C (.range1 a) = evIt range1D (evCons (ev C a) evNil) := rfl
@[simp] theorem evx_8  : evI C (.range2 a b) = evIt range2D (evCons (ev C a) (evCons (ev C b) evNil)) := rfl
@[simp] theorem evx_9  : evI C (.zip a b) = evIt zipD (evCons (ev C a) (evCons (ev C b) evNil)) := rfl
@[simp] theorem evx_10  : evCond C .nil = evYes := rfl
@[simp] theorem evx_11  : evCond C (.cons e .nil) = tst (ev C e) := rfl
@[simp] theorem evx_12  : xS C (.ret e) = xRet (ev C e) := rfl
@[simp] theorem evx_13  : xS C (.asg t e) = xAsg t (ev C e) := rfl
@[simp] theorem evx_14 {i : Nat} : xS C (.own i e) = xOwn i (ev C e) := rfl
@[simp] theorem evx_15 {i : Nat} : xS C (.app i e) = xApp i (ev C e) := rfl
@[simp] theorem evx_16 {i : Nat} : xS C (.set i a e) = xSet i (ev C a) (ev C e) := rfl
@[simp] theorem evx_17 {i : Nat} {o : BinO} : xS C (.aug i o e) = xAug i o (ev C e) := rfl
@[simp] theorem evx_18  : xS C (.drop e) = xDrop (ev C e) := rfl
@[simp] theorem evx_19  : xS C (.ite c ss ss') = xIf (tst (ev C c)) (xSs C ss) (xSs C ss') := rfl
@[simp] theorem evx_20  : xS C (.for_ t it ss) = xFor t (evI C it) (xSs C ss) := rfl
@[simp] theorem evx_21  : xS C (.while_ c ss) = xWhile (tst (ev C c)) (xSs C ss) := rfl
@[simp] theorem evx_22  : xS C .pass = xNext := rfl
@[simp] theorem evx_23  : xS C .brk = xBreak := rfl
@[simp] theorem evx_24  : xS C .cont = xCont := rfl
@[simp] theorem evx_25  : xSs C .nil = xNext := rfl
@[simp] theorem evx_26  : xSs C (.cons s ss) = xSeq (xS C s) (xSs C ss) := rfl
@[simp] theorem evx_27 {i : Nat} : xSs C (.frz i ss) = xSeq (xFrz i) (xSs C ss) := rfl
end
section
variable {i j : Int} {x y : Str} {xs ys : List D} {b c : Bool} {n m : Nat} {d : D}
@[simp] theorem op_0 : binD .add (.int i) (.int j) = some (.int (i + j)) := rfl
@[simp] theorem op_1 : binD .sub (.int i) (.int j) = some (.int (i - j)) := rfl
@[simp] theorem op_2 : binD .add (.tup xs) (.tup ys) = if xs.length + ys.length ≤ 16777216 then some (.tup (xs ++ ys)) else none := rfl
@[simp] theorem op_3 : binD .add (.lst xs) (.lst ys) = if xs.length + ys.length ≤ 16777216 then some (.lst (xs ++ ys)) else none := rfl
@[simp] theorem op_4 : binD .add (.str x) (.str y) = if x.length + y.length ≤ 16777216 then some (.str (x ++ y)) else none := rfl
@[simp] theorem op_5 : cmpD .lt (.int i) (.int j) = some (decide (i < j)) := rfl
@[simp] theorem op_6 : cmpD .le (.int i) (.int j) = some (decide (i ≤ j)) := rfl
@[simp] theorem op_7 : cmpD .gt (.int i) (.int j) = some (decide (j < i)) := rfl
@[simp] theorem op_8 : cmpD .ge (.int i) (.int j) = some (decide (j ≤ i)) := rfl
@[simp] theorem op_9 : cmpD .is (.bool b) (.bool c) = some (decide (b = c)) := rfl
@[simp] theorem op_10 : cmpD .is .none .none = some true := rfl
@[simp] theorem op_11 : cmpD .is (.int i) .none = some false := rfl
@[simp] theorem op_12 : cmpD .is (.bool b) .none = some false := rfl
@[simp] theorem op_13 : cmpD .is (.str x) .none = some false := rfl
@[simp] theorem op_14 : cmpD .is (.tup xs) .none = some false := rfl
@[simp] theorem op_15 : cmpD .is (.lst xs) .none = some false := rfl
@[simp] theorem op_16 : cmpD .isNot .none .none = some false := rfl
@[simp] theorem op_17 : cmpD .isNot (.int i) .none = some true := rfl
@[simp] theorem op_18 : cmpD .isNot (.tup xs) .none = some true := rfl
@[simp] theorem op_19 : cmpD .isNot (.lst xs) .none = some true := rfl
@[simp] theorem op_20 : truD (.bool b) = some b := rfl
@[simp] theorem op_21 : truD .none = some false := rfl
@[simp] theorem op_22 : truD (.tup xs) = some (!xs.isEmpty) := rfl
@[simp] theorem op_23 : truD (.lst xs) = some (!xs.isEmpty) := rfl
@[simp] theorem op_24 : truD (.int i) = some (i != 0) := rfl
@[simp] theorem op_25 : negD (.int i) = some (.int (-i)) := rfl
@[simp] theorem op_26 : ixD (.tup xs) (.int i) = atI xs i := rfl
@[simp] theorem op_27 : ixD (.lst xs) (.int i) = atI xs i := rfl
@[simp] theorem op_28 {lo hi : Option Int} : slD (.tup xs) lo hi = some (.tup (cutD xs lo hi)) := rfl
@[simp] theorem op_29 {lo hi : Option Int} : slD (.lst xs) lo hi = some (.lst (cutD xs lo hi)) := rfl
@[simp] theorem op_30 : Bi.op .len [.tup xs] = some (.int xs.length) := rfl
@[simp] theorem op_31 : Bi.op .len [.lst xs] = some (.int xs.length) := rfl
@[simp] theorem op_32 {ns : List Int} : Bi.op .len [.scr ns] = some (.int ns.length) := rfl
@[simp] theorem op_33 : Bi.op .all [.lst xs] = (boolsD xs).map fun bs => .bool (bs.all id) := rfl
@[simp] theorem op_34 : Bi.op .any [.lst xs] = (boolsD xs).map fun bs => .bool (bs.any id) := rfl
@[simp] theorem op_35 : Bi.op .sum [.lst xs] = (intsD xs).map fun ns => .int ns.sum := rfl
@[simp] theorem op_36 : Bi.op .max [.int i, .int j] = some (.int (if j > i then j else i)) := rfl
@[simp] theorem op_37 : Bi.op .min [.int i, .int j] = some (.int (if j < i then j else i)) := rfl
@[simp] theorem op_38 : Bi.op .int [.int i] = some (.int i) := rfl
@[simp] theorem op_39 : Bi.op .int [.bool b] = some (.int (if b then 1 else 0)) := rfl
@[simp] theorem op_40 : Bi.op .tuple [.tup xs] = some (.tup xs) := rfl
@[simp] theorem op_41 : Bi.op .tuple [.lst xs] = some (.tup xs) := rfl
@[simp] theorem op_42 : Bf.op .list [.tup xs] = some xs := rfl
@[simp] theorem op_43 : Bf.op .list [.lst xs] = some xs := rfl
@[simp] theorem op_44 {t : TyK} : isiD t (.bool b) = some (t == .bool || t == .int) := rfl
@[simp] theorem op_45 {t : TyK} : isiD t (.int i) = some (t == .int) := rfl
@[simp] theorem op_46 {t : TyK} : isiD t (.str x) = some (t == .str) := rfl
@[simp] theorem op_47 {t : TyK} : isiD t (.tup xs) = some (t == .tuple) := rfl
@[simp] theorem op_48 {t : TyK} : isiD t (.lst xs) = some (t == .list) := rfl
@[simp] theorem op_49 {t : TyK} : isiD t .none = some false := rfl
@[simp] theorem op_50 : itemsD (.tup xs) = some xs := rfl
@[simp] theorem op_51 : itemsD (.lst xs) = some xs := rfl
@[simp] theorem op_52 : zipD [.tup xs, .tup ys] = some ((xs.zip ys).map fun p => .tup [p.1, p.2]) := rfl
@[simp] theorem op_53 : zipD [.lst xs, .lst ys] = some ((xs.zip ys).map fun p => .tup [p.1, p.2]) := rfl
@[simp] theorem op_54 : augD .add (.int i) (.int j) = some (.int (i + j)) := rfl
@[simp] theorem op_55 : augD .sub (.int i) (.int j) = some (.int (i - j)) := rfl
@[simp] theorem op_56 {t u v : Tgt} {d' d'' : D} {ρ : Rho} : bindT (.nm n) d ρ = some (ρ.set n (.val d)) := rfl
@[simp] theorem op_57 {t u v : Tgt} {d' d'' : D} {ρ : Rho} : bindT (.tp t u) (.tup [d, d']) ρ = (bindT t d ρ).bind fun ρ' => bindT u d' ρ' := rfl
@[simp] theorem op_58 {t u v : Tgt} {d' d'' : D} {ρ : Rho} : bindT (.tp3 t u v) (.tup [d, d', d'']) ρ = (bindT t d ρ).bind fun ρ' => (bindT u d' ρ').bind fun ρ'' => bindT v d'' ρ'' := rfl
@[simp] theorem op_59 {ρ : Rho} {ms : List Nat} : wipeR ρ [] = ρ := rfl
@[simp] theorem op_60 {ρ : Rho} {ms : List Nat} : wipeR ρ (n :: ms) = (wipeR ρ ms).set n .un := rfl
@[simp] theorem mul_int : binD .mul (.int i) (.int j) = if (-(2 ^ 64) < i ∧ i < 2 ^ 64) ∨ (-(2 ^ 64) < j ∧ j < 2 ^ 64) then some (.int (i * j)) else none := by
  simp only [binD, mulD, Bool.or_eq_true, Bool.and_eq_true, decide_eq_true_eq]
@[simp] theorem mod_int : binD .mod (.int i) (.int j) = if j ≠ 0 then some (.int (i.fmod j)) else none := rfl
@[simp] theorem fdiv_int : binD .fdiv (.int i) (.int j) = if j ≠ 0 ∧ j.natAbs < 1073741824 then some (.int (i.fdiv j)) else none := by
  simp only [binD, fdivD, Bool.and_eq_true, decide_eq_true_eq]
@[simp] theorem pow_int : binD .pow (.int i) (.int j) = if 0 ≤ j ∧ j ≤ 1000000 ∧ i.natAbs < 2 ^ 64 then some (.int (i ^ j.toNat)) else none := by
  simp only [binD, powD, Bool.and_eq_true, decide_eq_true_eq, and_assoc]
@[simp] theorem okD_int : okD (.int i) = true := rfl
@[simp] theorem okD_bool : okD (.bool b) = true := rfl
@[simp] theorem okD_none : okD .none = true := rfl
theorem eqD_of {a c : D} (h : okD a = true) (h' : okD c = true) : eqD a c = some (PyData.eqv a.py c.py) := by
  unfold eqD; rw [h, h']; rfl
@[simp] theorem eq_int : cmpD .eq (.int i) (.int j) = some (decide (i = j)) := by
  show eqD _ _ = _
  rw [eqD_of okD_int okD_int]
  simp only [D.py, PyData.eqv]
  rfl
@[simp] theorem ne_int : cmpD .ne (.int i) (.int j) = some (!decide (i = j)) := by
  show (cmpD .eq (.int i) (.int j)).map (!·) = _
  rw [eq_int]; rfl
@[simp] theorem ex_cond {α : Type} {p : Prop} {a : α} {q : α → Prop} : (∃ z, (p ∧ a = z) ∧ q z) ↔ p ∧ q a :=
  ⟨fun ⟨z, ⟨h1, h2⟩, h3⟩ => ⟨h1, h2 ▸ h3⟩, fun ⟨h1, h2⟩ => ⟨a, ⟨h1, rfl⟩, h2⟩⟩
theorem range1_eq (h : -(2 ^ 62) ≤ i ∧ i < 2 ^ 62) : range1D [.int i] = some (rangeD 0 i.toNat) := by
  simp only [range1D, Bool.and_eq_true, decide_eq_true_eq, if_pos h]
theorem range2_eq (h : -(2 ^ 62) ≤ i ∧ i < 2 ^ 62 ∧ -(2 ^ 62) ≤ j ∧ j < 2 ^ 62) : range2D [.int i, .int j] = some (rangeD i (j - i).toNat) := by
  simp only [range2D, Bool.and_eq_true, decide_eq_true_eq, and_assoc, if_pos h]
@[simp] theorem rho0_eq {N : List Str} {ds : List D} : rho0 N ds = ds.map Sl.val ++ List.replicate (N.length - ds.length) .un := rfl
theorem range_get {lo : Int} {k : Nat} {d : D} : (rangeD lo n)[k]? = some d ↔ k < n ∧ d = .int (lo + k) := by
  simp only [rangeD, List.getElem?_map, Option.map_eq_some_iff]
  constructor
  · rintro ⟨a, h1, h2⟩
    rw [List.getElem?_eq_some_iff] at h1
    obtain ⟨h, h3⟩ := h1
    simp at h h3
    subst h3
    exact ⟨h, h2.symm⟩
  · rintro ⟨h, rfl⟩
    exact ⟨k, by simp [h], rfl⟩
@[simp] theorem range_len {lo : Int} : (rangeD lo n).length = n := by simp [rangeD]
end
end Ev

set_option Elab.async false
set_option linter.all false
set_option autoImplicit false
set_option maxRecDepth 100000
set_option maxHeartbeats 4000000
/-! Ev13: the pool. -/
namespace Ev
open PySem PySem.Spec PyProof.Rows L2

def cellB : Ss := (Ss.cons (S.ite (E.cmp .lt (E.var 1) (E.bi .len (Es.cons (E.var 0) Es.nil))) (Ss.cons (S.ret (E.ix (E.var 0) (E.var 1))) Ss.nil) Ss.nil) (Ss.cons (S.ret (E.int 0)) Ss.nil))
def cellN : List Str := [(Str.ofString "script"), (Str.ofString "k")]
def numB : Ss := (Ss.cons (S.own 2 (E.lst Es.nil)) (Ss.cons (S.asg (Tgt.nm 3) (E.var 0)) (Ss.cons (S.for_ (Tgt.nm 4) (It.range1 (E.var 1)) (Ss.cons (S.ite (E.and (Es.cons (E.cmp .ge (E.var 0) (E.bin .pow (E.int 10) (E.int 18))) (Es.cons (E.cmp .gt (E.var 3) (E.int 0)) Es.nil))) (Ss.cons (S.app 2 (E.bin .mod (E.bi .int (Es.cons (E.var 3) Es.nil)) (E.int 4099))) (Ss.cons (S.asg (Tgt.nm 3) (E.bin .fdiv (E.var 3) (E.int 4099))) Ss.nil)) (Ss.cons (S.asg (Tgt.nm 5) (E.bin .mod (E.bi .int (Es.cons (E.bin .add (E.bin .mul (E.var 0) (E.int 69621)) (E.bin .mul (E.bin .add (E.var 4) (E.int 1)) (E.int 48271))) Es.nil)) (E.int 2147483647))) (Ss.cons (S.asg (Tgt.nm 5) (E.bin .mod (E.bi .int (Es.cons (E.bin .add (E.bin .add (E.bin .mul (E.var 5) (E.var 5)) (E.bin .mul (E.var 5) (E.int 16807))) (E.bin .mul (E.var 4) (E.int 7919))) Es.nil)) (E.int 2147483629))) (Ss.cons (S.asg (Tgt.nm 5) (E.bin .mod (E.bi .int (Es.cons (E.bin .add (E.bin .add (E.bin .mul (E.var 5) (E.var 5)) (E.var 0)) (E.bin .mul (E.int 17) (E.var 4))) Es.nil)) (E.int 2147483587))) (Ss.cons (S.app 2 (E.bin .mod (E.bin .fdiv (E.var 5) (E.int 5)) (E.int 4099))) Ss.nil))))) Ss.nil)) (Ss.frz 2 (Ss.cons (S.ret (E.var 2)) Ss.nil)))))
def numN : List Str := [(Str.ofString "cell"), (Str.ofString "many"), (Str.ofString "rows"), (Str.ofString "left"), (Str.ofString "k"), (Str.ofString "mixed")]
def poolB : Ss := (Ss.cons (S.asg (Tgt.nm 1) (E.lst Es.nil)) (Ss.cons (S.for_ (Tgt.nm 2) (It.range1 (E.bi .min (Es.cons (E.int 6) (Es.cons (E.bi .max (Es.cons (E.int 1) (Es.cons (E.bi .len (Es.cons (E.var 0) Es.nil)) Es.nil))) Es.nil)))) (Ss.cons (S.asg (Tgt.nm 1) (E.bin .add (E.var 1) (E.call 1 (Es.cons (E.bin .add (E.call 0 (Es.cons (E.var 0) (Es.cons (E.var 2) Es.nil))) (E.bin .mul (E.int 11) (E.var 2))) (Es.cons (E.int 24) Es.nil))))) Ss.nil)) (Ss.cons (S.ret (E.lst (Es.cons (E.var 1) (Es.cons (E.lst (Es.cons (E.int 0) Es.nil)) Es.nil)))) Ss.nil)))
def poolN : List Str := [(Str.ofString "script"), (Str.ofString "rows"), (Str.ofString "k")]
def cellD : FD := ⟨Str.ofString "_law_cell", 2, cellN, cellB⟩
def numD : FD := ⟨Str.ofString "_law_numbers", 2, numN, numB⟩
def poolD : FD := ⟨Str.ofString "_law_pool", 1, poolN, poolB⟩
def T0 : Tab := [(0, .defn cellD), (1, .defn numD), (2, .defn poolD)]
theorem t0_0 : T0.lookup 0 = some (.defn cellD) := rfl
theorem t0_1 : T0.lookup 1 = some (.defn numD) := rfl
theorem t0_2 : T0.lookup 2 = some (.defn poolD) := rfl
@[simp] theorem scr_ix {ns : List Int} {i : Int} : ixD (.scr ns) (.int i) = (atI ns i).map D.int := rfl

theorem atI_ok {α : Type} {xs : List α} {k : Nat} (h : k < xs.length) : atI xs (k : Int) = some xs[k] := atI_nat (j := k) (by simp [h])
theorem cell_ok {ns : List Int} {k k' n : Nat} : ∃ i : Int, wp (callF T0 (k' + 1) 0 [.scr ns, .int k]) n fun d _ => d = .int i := by
  by_cases h : k < ns.length
  · refine ⟨ns[k], ?_⟩
    rw [wp_def t0_0 rfl]
    have h' : (k : Int) < (ns.length : Int) := by omega
    simp [cellD, cellN, cellB, h', atI_ok h]
  · refine ⟨0, ?_⟩
    rw [wp_def t0_0 rfl]
    have h' : ¬ (k : Int) < (ns.length : Int) := by omega
    simp [cellD, cellN, cellB, h']
theorem fmod_bound {i m : Int} (h : 0 < m) : 0 ≤ i.fmod m ∧ i.fmod m < m := by
  rw [Int.fmod_eq_emod_of_nonneg _ (by omega)]
  exact ⟨Int.emod_nonneg _ (by omega), Int.emod_lt_of_pos _ h⟩
@[simp] theorem appR_own {ρ : Rho} {i : Nat} {d : D} : appR ρ i d = match ρ[i]? with
  | some (.own (.lst ds)) => if ds.length < 16777216 then some (ρ.set i (.own (.lst (ds ++ [d])))) else none
  | _ => none := rfl
theorem num_ok {c : Int} {k' n : Nat} : wp (callF T0 (k' + 1) 1 [.int c, .int 24]) n fun d _ => ∃ rows : List Int, d = .lst (rows.map .int) ∧ rows.length = 24 := by
  rw [wp_def t0_1 rfl]
  simp [numD, numN, numB, range1_eq]
  refine wp_for (I := fun i ρ n => ∃ (rows : List Int) (l : Int) (x4 x5 : Sl), ρ = [.val (.int c), .val (.int 24), .own (.lst (rows.map .int)), .val (.int l), x4, x5] ∧ rows.length = i) ⟨[], c, _, _, rfl, rfl⟩ ?_ ?_
  · rintro i d ρ n hd ⟨rows, l, x4, x5, rfl, rfl⟩
    obtain ⟨hi, rfl⟩ := range_get.mp hd
    have hl : rows.length < 16777216 := by omega
    simp [hl, -Bool.exists_bool]
    have f1 : ∀ x : Int, -18446744073709551616 < x.fmod 2147483647 ∧ x.fmod 2147483647 < 18446744073709551616 := fun x => by
      have := @fmod_bound x 2147483647 (by decide)
      omega
    have f2 : ∀ x : Int, -18446744073709551616 < x.fmod 2147483629 ∧ x.fmod 2147483629 < 18446744073709551616 := fun x => by
      have := @fmod_bound x 2147483629 (by decide)
      omega
    have more : ∀ x : Int, ∃ rows_1 : List Int, List.map D.int rows ++ [D.int x] = List.map D.int rows_1 ∧ rows_1.length = rows.length + 1 := fun x => ⟨rows ++ [x], by simp, by simp⟩
    split
    · split
      · exact more _
      · exact ⟨f1 _, f2 _, more _⟩
    · exact ⟨f1 _, f2 _, more _⟩
  · rintro ρ n ⟨rows, l, x4, x5, rfl, h⟩
    simp at h
    simp [frzR]
    exact ⟨rows, rfl, h⟩
theorem pool_ok {ns : List Int} {k' n : Nat} (hn : ns.length ≤ 63) : wp (callF T0 (k' + 2) 2 [.scr ns]) n fun d _ => ∃ rows : List Int, d = .lst [.lst (rows.map .int), .lst [.int 0]] ∧ 24 ≤ rows.length ∧ rows.length ≤ 144 := by
  have hm : ∃ m : Nat, 1 ≤ m ∧ m ≤ 6 ∧ (if (if 1 < (ns.length : Int) then (ns.length : Int) else 1) < 6 then (if 1 < (ns.length : Int) then (ns.length : Int) else 1) else 6) = (m : Int) := by
    refine ⟨min 6 (max 1 ns.length), by omega, by omega, ?_⟩
    split <;> split at * <;> omega
  obtain ⟨m, h1, h6, em⟩ := hm
  rw [wp_def t0_2 rfl]
  simp [poolD, poolN, poolB, em]
  rw [range1_eq (by omega)]
  simp
  refine wp_for (I := fun i ρ n => ∃ (rows : List Int) (x2 : Sl), ρ = [.val (.scr ns), .val (.lst (rows.map .int)), x2] ∧ rows.length = 24 * i) ⟨[], _, rfl, rfl⟩ ?_ ?_
  · rintro i d ρ n hd ⟨rows, x2, rfl, hl⟩
    obtain ⟨hi, rfl⟩ := range_get.mp hd
    simp [hl]
    obtain ⟨c, hc⟩ := @cell_ok ns i k' n
    refine hc.mono ?_
    rintro _ n1 rfl
    simp
    refine num_ok.mono ?_
    rintro _ n2 ⟨r2, rfl, h2⟩
    simp [hl, h2]
    exact ⟨by omega, rows ++ r2, by simp, by simp [hl, h2]; omega⟩
  · rintro ρ n ⟨rows, x2, rfl, h⟩
    simp at h
    simp
    exact ⟨rows, rfl, by omega, by omega⟩
end Ev

set_option Elab.async false
set_option linter.all false
set_option autoImplicit false
set_option maxRecDepth 100000
set_option maxHeartbeats 4000000
/-! Ev14: the law's own def. -/
namespace Ev
open PySem PySem.Spec PyProof.Rows L2
def spLaw (K : PySem.W.Frag) : Sp := fun vs H Q _ => ∃ (a : Addr) (ns : List Int), vs = [.ref a] ∧ SqL K H a (ns.map V.int) ∧ ns.length ≤ 63 ∧ ∀ H', Q (.bl true) H'
def gh0 (K : PySem.W.Frag) : Gh := { live := false, K := K, pp := 0, pr := 0, pc := 0, rows := [] }
def St0 : Stt := ⟨[(0, Str.ofString "_law_cell"), (1, Str.ofString "_law_numbers"), (2, Str.ofString "_law_pool")], []⟩
def lawS : S := .asg (.nm 1) (.call 2 (.cons (.var 0) .nil))
def lawR (N : List Str) : Rho := .un :: .val .pool :: List.replicate (N.length - 2) .un
theorem pss_ex {X : Cx} {ss : List Stmt} {ι : Type} {t : ι → TS} (h : ∀ i, PSs X ss (t i)) : PSs X ss (fun D σ H => ∃ i, t i D σ H) := ⟨fun pins s σ H D I ⟨i, h'⟩ => (h i).run pins s σ H D I h'⟩
theorem law_ok {P : Program} {w : World} {K : PySem.W.Frag} {mg : Str → Option Value} {base : Heap} {a : Addr} {fd : FuncData} {st : Stmt} {N : List Str} {lawB : Ss} {first : Stmt} {rest : List Stmt} {T : List Int → Tab} {St : Stt} {k : Nat}
    (F : Fun K "law" "law" st a fd) (sc : FnScope N ["script"] (defScope st)) (hN : 2 ≤ N.length) (hb : defBody st = first :: rest)
    (m1 : mS St0 N (defScope st) lawS first = true) (m2 : mSs St N (defScope st) lawB rest = true) (O0 : TabOk P w K mg base (gh0 K) T0 St0)
    (O1 : ∀ g : Gh, g.live = true → g.K = K → TabOk P w K mg base g (T g.rows) St)
    (law : ∀ rows : List Int, 24 ≤ rows.length → rows.length ≤ 144 → wp (xSs (callF (T rows) (k + 2)) lawB (lawR N)) 0 fun o _ => o = .rt (.bool true)) :
    FnOk P w K mg base CX0 (k + 4) a fd ["script"] (spLaw K) := by
  refine F.ok sc (fun vs H Q E h => ?_) (fun cdv A outer s H vs Q E hr h => ?_)
  · obtain ⟨a, ns, rfl, _⟩ := h
    rfl
  · obtain ⟨a', ns, rfl, hS, hlen, kk⟩ := h
    let S0 : Sg := { P := P, w := w, K := K, mg := mg, base := base, g := gh0 K, k := k + 3, C := callF T0 (k + 2), St := St0, hK := O0.hK, bi := O0.bi, cn := O0.cnOk, fn := fns_sound O0 (k + 2) }
    let S1 : {g : Gh // g.live = true ∧ g.K = K} → Sg := fun g => { P := P, w := w, K := K, mg := mg, base := base, g := g.1, k := k + 3, C := callF (T g.1.rows) (k + 2), St := St, hK := (O1 g.1 g.2.1 g.2.2).hK, bi := (O1 g.1 g.2.1 g.2.2).bi, cn := (O1 g.1 g.2.1 g.2.2).cnOk, fn := fns_sound (O1 g.1 g.2.1 g.2.2) (k + 2) }
    have G : ∀ S : Sg, S.P = P → S.w = w → S.K = K → S.mg = mg → S.base = base → S.k = k + 3 → Good S N (defScope st) (defScope st) (cxOf CX0 P w K mg base N "law" (defScope st) a cdv A outer s H E).nox := by
      rintro S rfl rfl rfl rfl rfl h
      exact ⟨rfl, rfl, rfl, rfl, rfl, rfl, sc.nd, rfl, fun x hx => ⟨loc_of hx, .inl rfl⟩, sc.kind, rfl, by rw [h]; exact hr, rfl⟩
    rw [hb]
    refine ⟨_, pss_cons (sS S0 N lawS (G S0 rfl rfl rfl rfl rfl rfl) m1) (pss_ex fun g => sSs (S1 g) N lawB (G (S1 g) rfl rfl rfl rfl rfl rfl) m2), ?_⟩
    have p0 : PoolAt (gh0 K) 0 H := fun z => by cases z
    have hv : vis (gh0 K) H = H := by funext x; exact vis_ne fun z => by cases z
    have rep0 : RepAll (gh0 K) H [.ref a'] [.scr ns] := .cons (.scr hS) .nil
    have m := mdl_start (N := N) (ds := [.scr ns]) (by show 1 ≤ _; omega) (by rw [hv]; exact Same.refl _) p0 rep0
    have e : wp (xS (callF T0 (k + 2)) lawS (rho0 N [.scr ns])) 0 fun o _ => ∃ rows : List Int, o = .nx ((rho0 N [.scr ns]).set 1 (.val (.lst [.lst (rows.map .int), .lst [.int 0]]))) ∧ 24 ≤ rows.length ∧ rows.length ≤ 144 := by
      simp [lawS]
      refine (pool_ok hlen).mono ?_
      rintro _ n' ⟨rows, rfl, h1, h2⟩
      exact ex1_of rfl ⟨rows, rfl, h1, h2⟩
    obtain ⟨o, n', e, rows, rfl, h1, h2⟩ := e
    refine ⟨H, H, H, rho0 N [.scr ns], 0, _, n', e, m, fun F' σ' H' sm m' => ?_⟩
    have hl' := m'.len
    obtain ⟨v, hv', rv⟩ := m'.slot 1 (.val (.lst [.lst (rows.map .int), .lst [.int 0]])) (by
      rw [List.getElem?_set_self]
      simp; omega)
    have sb : Same F' H' := m'.sub.trans vis_same
    cases rv with
    | @lst pp vs _ hp r =>
    cases r with
    | cons ra r =>
    cases r with
    | cons rb r =>
    cases r
    cases ra with
    | @lst pr vs1 _ hpr r1 =>
    cases rb with
    | @lst pc vs2 _ hpc r2 =>
    have e1 := repAll_ints r1
    have e2 := repAll_ints (ns := [0]) r2
    subst e1 e2
    have Hp' := sb _ _ hp
    have Hr := sb _ _ hpr
    have Hc := sb _ _ hpc
    let g : Gh := { live := true, K := K, pp := pp, pr := pr, pc := pc, rows := rows }
    have n1 : pc ≠ pp := by
      intro z; subst z; rw [Hp'] at Hc; cases Hc
    have n2 : pc ≠ pr := by
      intro z; subst z; rw [Hr] at Hc
      have := congrArg (fun o : Option HO => match o with | some (.lst xs) => xs.length | _ => 0) Hc
      simp at this
      omega
    obtain ⟨_, n2', e3, rfl⟩ := law rows h1 h2
    have q : Mdl g (fun _ => none) H' (fun _ => none) (lawR N) 0 σ' H' := by
      refine ⟨Grow.refl, fun _ => ⟨by rw [Hp']; rfl, by rw [Hr]; rfl, by rw [Hc]; rfl⟩, fun b o z => (by cases z), fun _ => ⟨Hp', Hr, Hc, n1, n2⟩, ?_, fun i sl z => ?_, fun i j di dj b z => ?_⟩
      · rw [← hl']; simp [lawR]; omega
      · unfold lawR at z
        match i, z with
        | 0, z => cases z; trivial
        | 1, z => cases z; exact ⟨_, hv', .pool⟩
        | i + 2, z =>
          rw [List.getElem?_cons_succ, List.getElem?_cons_succ, List.getElem?_replicate] at z
          split at z <;> cases z
          trivial
      · unfold lawR at z
        match i, z with
        | 0, z => cases z
        | 1, z => cases z
        | i + 2, z =>
          rw [List.getElem?_cons_succ, List.getElem?_cons_succ, List.getElem?_replicate] at z
          split at z <;> cases z
    refine ⟨⟨g, rfl, rfl⟩, fun _ => none, H', fun _ => none, lawR N, 0, _, n2', e3, q, fun v F2 H2 _ _ _ r => ?_⟩
    cases r
    exact kk H2
end Ev

set_option Elab.async false
set_option linter.all false
set_option autoImplicit false
set_option maxRecDepth 100000
set_option maxHeartbeats 4000000
/-! Ev15: what a law's top has written, put together. -/
namespace Ev
open PySem PySem.Spec PyProof.Rows L2

def Fact (K : PySem.W.Frag) (x : Str) (st : Stmt) : Prop := ∃ (f : Addr) (fd : FuncData) (kV dc pm : Value) (an : Option Addr) (cd ct : Value), PySem.W.nsIn K mainGlobals x = some (some (.ref f)) ∧ Fun K x x st f fd ∧ fd = PySem.W.fnOf x x (defArgs st) (defBody st) (defScope st) .none kV dc pm an cd ct
theorem fact_mk {K : PySem.W.Frag} {x : Str} {st : Stmt} {f : Addr} {oc : Value} {od an : Option Addr} {sl : Array (Option Value)} {kV dc pm cd ct : Value}
    (a : PySem.W.nsIn K mainGlobals x = some (some (.ref f))) (l : K.lookup f = some ⟨oc, od, .func (PySem.W.fnOf x x (defArgs st) (defBody st) (defScope st) .none kV dc pm an cd ct), sl⟩) (c : PySem.W.codeIn K cd x = true) (k : PySem.W.keepIn K (.ref f) = true) : Fact K x st :=
  ⟨f, _, kV, dc, pm, an, cd, ct, a, fun_mk l c k, rfl⟩
def BindOk (x : Str) (st : Stmt) (ps : List Str) : Prop := ∀ (kV doc pm : Value) (an : Option Addr) (cdv ct : Value) (us : List Value), us.length = ps.length → bindArgs (PySem.W.fnOf x x (defArgs st) (defBody st) (defScope st) .none kV doc pm an cdv ct) ⟨us, []⟩ = pure (ps.zip us)

structure DefIs (St : Stt) (fd : FD) (st : Stmt) : Prop where
  bd : BindOk fd.name st (fd.N.take fd.np)
  sc : FnScope fd.N (fd.N.take fd.np) (defScope st)
  np : fd.np ≤ fd.N.length
  ms : mSs St fd.N (defScope st) fd.body (defBody st) = true
section
variable {P : Program} {w : World} {K : PySem.W.Frag} {mg : Str → Option Value} {base h : Heap} {g : Gh} {T : Tab} {St : Stt}
theorem def_ok (X : K.In h) (G : h.Ns mainGlobals mg) {fd : FD} {st : Stmt} (D : DefIs St fd st) (F : Fact K fd.name st) : DefOk K mg St fd := by
  obtain ⟨f, d, _, _, _, _, _, _, a, F, _⟩ := F
  exact ⟨f, d, _, st, F, PySem.W.mg_of X G a, F.binds D.bd, D.sc, D.np, D.ms⟩
theorem fn_defn (X : K.In h) (G : h.Ns mainGlobals mg) {f : Nat} {x : Str} {fd : FD} {st : Stmt} (t : T.lookup f = some (.defn fd)) (hx : fd.name = x) (D : DefIs St fd st) (F : Fact K x st) : FnIs P w K mg base g T St f x := by
  subst hx
  exact .inl ⟨fd, t, rfl, def_ok X G D F⟩
theorem fn_draw (X : K.In h) (G : h.Ns mainGlobals mg) {f : Nat} {st : Stmt} (hl : g.live = true) (t : T.lookup f = some (.prim (drawC g.rows))) (hs : defScope st = drawScope) (hb : DrawBody (defBody st)) (bd : BindOk "_law_draw" st ["pool", "many"]) (bi : ∀ x ∈ biNames, mg x = none) (F : Fact K "_law_draw" st) : FnIs P w K mg base g T St f "_law_draw" := by
  obtain ⟨a, d, _, _, _, _, _, _, e, F, _⟩ := F
  exact .inr ⟨_, t, a, d, _, PySem.W.mg_of X G e, F.kp, F.binds bd, draw_ok hl F hs hb (bi "len" (by decide +kernel)) (bi "int" (by decide +kernel))⟩
def AllP (Φ : Nat → Str → Prop) : List (Nat × Str) → Prop
  | [] => True
  | (f, x) :: r => Φ f x ∧ AllP Φ r
theorem AllP.get {Φ : Nat → Str → Prop} : ∀ {l : List (Nat × Str)} {f : Nat} {x : Str}, AllP Φ l → l.lookup f = some x → Φ f x
  | (f', x') :: r, f, x, h, e => by
    by_cases q : f = f'
    · subst q
      simp at e
      subst e
      exact h.1
    · have q' : (f == f') = false := by simpa using q
      rw [List.lookup_cons, q'] at e
      exact AllP.get h.2 e
def ConstIs (K : PySem.W.Frag) (p : Str × D) : Prop := ∃ v u, PySem.W.nsIn K mainGlobals p.1 = some (some u) ∧ RelV v u ∧ ∀ (g : Gh) (F : Hp), g.K = K → Rep g F v p.2
theorem const_int {K : PySem.W.Frag} {x : Str} {i : Int} {t : Tok} (e : PySem.W.nsIn K mainGlobals x = some (some (.int i t))) : ConstIs K (x, .int i) := ⟨.int i, _, e, ⟨t, rfl⟩, fun _ _ _ => .int i⟩
theorem const_str {K : PySem.W.Frag} {x y : Str} {t : Tok} (e : PySem.W.nsIn K mainGlobals x = some (some (.str y t))) : ConstIs K (x, .str y) := ⟨.str y, _, e, ⟨t, rfl⟩, fun _ _ _ => .str y⟩
def intVal : Value → Option Int
  | .int i _ => some i
  | _ => none
theorem vals_ints {K : PySem.W.Frag} : ∀ {its : List Value} {is : List Int}, its.map intVal = is.map some → Vals (is.map V.int) its
  | [], [], _ => .nil
  | [], _ :: _, h => by simp at h
  | _ :: _, [], h => by simp at h
  | x :: its, i :: is, h => by
    simp only [List.map_cons, List.cons.injEq] at h
    refine .cons ?_ (vals_ints (K := K) h.2)
    obtain ⟨h1, _⟩ := h
    cases x with
    | int j t =>
      have e : j = i := Option.some.inj h1
      subst e
      exact ⟨t, rfl⟩
    | _ => cases h1
/-- a module's tuple of ints -/
theorem const_tup {K : PySem.W.Frag} {x : Str} {is : List Int} {a : Addr} {od : Option Addr} {its : Array Value} {n : Nat} {sl : Array (Option Value)} (e : PySem.W.nsIn K mainGlobals x = some (some (.ref a))) (l : K.lookup a = some ⟨.type "tuple", od, .seq its n, sl⟩)
    (h : its.toList.map intVal = is.map some) (hl : is.length ≤ 1000) : ConstIs K (x, .tup (is.map .int)) := by
  have hv := vals_ints (K := K) h
  have hlen := hv.length
  simp at hlen
  refine ⟨.ref a, _, e, rfl, fun g F hK => ?_⟩
  refine .tup (vs := is.map V.int) (.inr ⟨_, its, n, by rw [hK]; exact l, rfl, rfl, by rw [sizeLine_eq]; omega, hv⟩) ?_
  clear h hl hv hlen l e
  induction is with
  | nil => exact .nil
  | cons i is ih => exact .cons (.int i) ih
def AllC (Φ : Str × D → Prop) : List (Str × D) → Prop
  | [] => True
  | p :: r => Φ p ∧ AllC Φ r
theorem AllC.get {Φ : Str × D → Prop} : ∀ {l : List (Str × D)} {p : Str × D}, AllC Φ l → p ∈ l → Φ p
  | q :: r, p, h, e => by
    rcases List.mem_cons.mp e with rfl | e
    · exact h.1
    · exact AllC.get h.2 e
def AllS (Φ : Str → Prop) : List Str → Prop
  | [] => True
  | p :: r => Φ p ∧ AllS Φ r
theorem AllS.get {Φ : Str → Prop} : ∀ {l : List Str} {p : Str}, AllS Φ l → p ∈ l → Φ p
  | q :: r, p, h, e => by
    rcases List.mem_cons.mp e with rfl | e
    · exact h.1
    · exact AllS.get h.2 e
theorem tab_mk (X : K.In h) (G : h.Ns mainGlobals mg) (hK : g.K = K) (bi : AllS (fun x => PySem.W.nsIn K mainGlobals x = some none) biNames) (cn : AllC (ConstIs K) St.cns) (fn : AllP (FnIs P w K mg base g T St) St.fns) : TabOk P w K mg base g T St :=
  ⟨hK, fun x hx => PySem.W.mg_none_of X G (bi.get hx), fun x d hm => by
    obtain ⟨v, u, e, r, k⟩ := cn.get hm
    exact ⟨v, u, PySem.W.mg_of X G e, r, fun F => k g F hK⟩, fun f x e => fn.get e⟩
end
theorem walk {l : PySem.W.OpenLaw} {q : Program} {loose : List Str} {XP : (Str → Option Value) → Heap → Prop} {YP : World → Heap → Prop} {d : DefRec} {K : Params → PySem.W.Frag} {k : Nat} (hn : l.most = some 63) (hdf : d.params.defaults = []) (hr : Room k callerA)
    (hY : ∀ (w : World) (h : Heap), YP w h → (K w.params).In h)
    (F : ∀ (w : World) (mg : Str → Option Value) (fa : Addr) (h : Heap), (K w.params).In h → h.Ns mainGlobals mg → mg d.name = some (.ref fa) →
      ∃ fd : FuncData, (∀ (s : Shared) (u : Value), BindsTo s fd ⟨[u], []⟩ [("script", u)]) ∧ ∀ base : Heap, (K w.params).In base → base.Ns mainGlobals mg → FnOk l.prog w (K w.params) mg base CX0 k fa fd ["script"] (spLaw (K w.params))) :
    PySem.W.WalkO q loose XP YP l.row.toRowW d [] (fun f vs => PySem.call f vs) :=
  L2.walk_of (n := 63) (k := k) (x := "script") (CX := fun _ => CX0) (sp := fun w => spLaw (K w.params)) hn (by decide) hdf hr hY F (fun _ _ a ns hl _ hS => ⟨a, ns, rfl, hS, hl, fun _ => rfl⟩) fun _ _ _ _ _ z => z
theorem room_200 : Room 200 callerA := ⟨rfl, by decide, by decide⟩
end Ev

set_option Elab.async false
set_option linter.all false
set_option autoImplicit false
set_option maxRecDepth 100000
set_option maxHeartbeats 800000
namespace Ev
open PySem PySem.Spec PyProof.Rows L2
def b_4 : Ss := (Ss.cons (S.ret (E.and (Es.cons (E.isi .int (E.var 0)) (Es.cons (E.not (E.isi .bool (E.var 0))) Es.nil)))) Ss.nil)
def n_4 : List Str := [(Str.ofString "value")]
def d_4 : FD := ⟨(Str.ofString "is_integer"), 1, n_4, b_4⟩
def b_5 : Ss := (Ss.cons (S.ret (E.and (Es.cons (E.call 4 (Es.cons (E.var 0) Es.nil)) (Es.cons (E.chain .le .le (E.var 1) (E.var 0) (E.var 2)) Es.nil)))) Ss.nil)
def n_5 : List Str := [(Str.ofString "value"), (Str.ofString "low"), (Str.ofString "high")]
def d_5 : FD := ⟨(Str.ofString "is_number"), 3, n_5, b_5⟩
def b_6 : Ss := (Ss.cons (S.ret (E.and (Es.cons (E.isi .tuple (E.var 0)) (Es.cons (E.cmp .eq (E.bi .len (Es.cons (E.var 0) Es.nil)) (E.var 1)) Es.nil)))) Ss.nil)
def n_6 : List Str := [(Str.ofString "value"), (Str.ofString "size")]
def d_6 : FD := ⟨(Str.ofString "is_tuple"), 2, n_6, b_6⟩
def b_7 : Ss := (Ss.cons (S.ret (E.and (Es.cons (E.isi .tuple (E.var 0)) (Es.cons (E.chain .le .le (E.var 1) (E.bi .len (Es.cons (E.var 0) Es.nil)) (E.var 2)) Es.nil)))) Ss.nil)
def n_7 : List Str := [(Str.ofString "value"), (Str.ofString "low"), (Str.ofString "high")]
def d_7 : FD := ⟨(Str.ofString "is_between"), 3, n_7, b_7⟩
def b_8 : Ss := (Ss.cons (S.ret (E.bi .all (Es.cons (E.lc [((Str.ofString "at"), 1)] (Tgt.nm 1) (It.range2 (E.int 1) (E.bi .len (Es.cons (E.var 0) Es.nil))) Es.nil (E.cmp .lt (E.ix (E.var 0) (E.bin .sub (E.var 1) (E.int 1))) (E.ix (E.var 0) (E.var 1)))) Es.nil))) Ss.nil)
def n_8 : List Str := [(Str.ofString "value"), (Str.ofString "at")]
def d_8 : FD := ⟨(Str.ofString "is_ascending"), 1, n_8, b_8⟩
def b_9 : Ss := (Ss.cons (S.ret (E.and (Es.cons (E.isi .tuple (E.var 0)) (Es.cons (E.bi .all (Es.cons (E.lc [((Str.ofString "one"), 3)] (Tgt.nm 3) (It.seq (E.var 0)) Es.nil (E.call 5 (Es.cons (E.var 3) (Es.cons (E.var 1) (Es.cons (E.var 2) Es.nil))))) Es.nil)) Es.nil)))) Ss.nil)
def n_9 : List Str := [(Str.ofString "value"), (Str.ofString "low"), (Str.ofString "high"), (Str.ofString "one")]
def d_9 : FD := ⟨(Str.ofString "are_integers"), 3, n_9, b_9⟩
def b_10 : Ss := (Ss.cons (S.ret (E.and (Es.cons (E.call 9 (Es.cons (E.var 0) (Es.cons (E.var 1) (Es.cons (E.var 2) Es.nil)))) (Es.cons (E.call 8 (Es.cons (E.var 0) Es.nil)) Es.nil)))) Ss.nil)
def n_10 : List Str := [(Str.ofString "value"), (Str.ofString "low"), (Str.ofString "high")]
def d_10 : FD := ⟨(Str.ofString "are_numbers"), 3, n_10, b_10⟩
def b_169 : Ss := (Ss.cons (S.ite (E.or (Es.cons (E.not (E.call 6 (Es.cons (E.var 1) (Es.cons (E.int 2) Es.nil)))) (Es.cons (E.not (E.call 7 (Es.cons (E.ix (E.var 1) (E.int 0)) (Es.cons (E.int 1) (Es.cons (E.glob (Str.ofString "MOST_GUARDS") (D.int 5000)) Es.nil))))) (Es.cons (E.not (E.call 6 (Es.cons (E.ix (E.var 1) (E.int 1)) (Es.cons (E.bi .len (Es.cons (E.ix (E.var 1) (E.int 0)) Es.nil)) Es.nil)))) Es.nil)))) (Ss.cons (S.ret (E.bool false)) Ss.nil) Ss.nil) (Ss.cons (S.asg (Tgt.tp (Tgt.nm 2) (Tgt.nm 3)) (E.var 1)) (Ss.cons (S.ite (E.not (E.bi .all (Es.cons (E.lc [((Str.ofString "row"), 4)] (Tgt.nm 4) (It.seq (E.var 2)) Es.nil (E.and (Es.cons (E.call 6 (Es.cons (E.var 4) (Es.cons (E.bi .len (Es.cons (E.glob (Str.ofString "LOOKS") (D.tup [(D.int 0), (D.int 1), (D.int 2), (D.int 3)])) Es.nil)) Es.nil))) (Es.cons (E.call 9 (Es.cons (E.var 4) (Es.cons (E.int 0) (Es.cons (E.bin .sub (E.bi .len (Es.cons (E.var 2) Es.nil)) (E.int 1)) Es.nil)))) Es.nil)))) Es.nil))) (Ss.cons (S.ret (E.bool false)) Ss.nil) Ss.nil) (Ss.cons (S.ret (E.bi .all (Es.cons (E.lc [((Str.ofString "barred"), 5)] (Tgt.nm 5) (It.seq (E.var 3)) Es.nil (E.call 10 (Es.cons (E.var 5) (Es.cons (E.int 0) (Es.cons (E.bin .sub (E.var 0) (E.int 1)) Es.nil))))) Es.nil))) Ss.nil))))
def n_169 : List Str := [(Str.ofString "deeds"), (Str.ofString "value"), (Str.ofString "rows"), (Str.ofString "bars"), (Str.ofString "row"), (Str.ofString "barred")]
def d_169 : FD := ⟨(Str.ofString "is_guard"), 2, n_169, b_169⟩
def b_170 : Ss := (Ss.cons (S.ret (E.tup (Es.cons (E.tup (Es.cons (E.tup (Es.cons (E.int 0) (Es.cons (E.int 0) (Es.cons (E.int 0) (Es.cons (E.int 0) Es.nil))))) Es.nil)) (Es.cons (E.tup (Es.cons (E.tup Es.nil) Es.nil)) Es.nil)))) Ss.nil)
def n_170 : List Str := []
def d_170 : FD := ⟨(Str.ofString "open_guard"), 0, n_170, b_170⟩
def b_171 : Ss := (Ss.cons (S.ret (E.tup (Es.cons (E.tup (Es.cons (E.tup (Es.cons (E.int 0) (Es.cons (E.int 0) (Es.cons (E.int 0) (Es.cons (E.int 0) Es.nil))))) Es.nil)) (Es.cons (E.tup (Es.cons (E.bi .tuple (Es.cons (E.var 0) Es.nil)) Es.nil)) Es.nil)))) Ss.nil)
def n_171 : List Str := [(Str.ofString "held")]
def d_171 : FD := ⟨(Str.ofString "shut_guard"), 1, n_171, b_171⟩
def b_172 : Ss := (Ss.cons (S.ret (E.bi .all (Es.cons (E.lc [((Str.ofString "barred"), 3)] (Tgt.nm 3) (It.seq (E.ix (E.var 0) (E.int 1))) Es.nil (E.bi .all (Es.cons (E.lc [((Str.ofString "deed"), 2)] (Tgt.nm 2) (It.seq (E.var 3)) Es.nil (E.cmp .mem (E.var 2) (E.var 1))) Es.nil))) Es.nil))) Ss.nil)
def n_172 : List Str := [(Str.ofString "guard"), (Str.ofString "held"), (Str.ofString "deed"), (Str.ofString "barred")]
def d_172 : FD := ⟨(Str.ofString "bars_only"), 2, n_172, b_172⟩
def b_173 : Ss := (Ss.cons (S.asg (Tgt.nm 2) (E.int 0)) (Ss.cons (S.for_ (Tgt.nm 3) (It.seq (E.var 1)) (Ss.cons (S.asg (Tgt.nm 2) (E.ix (E.ix (E.ix (E.var 0) (E.int 0)) (E.var 2)) (E.var 3))) Ss.nil)) (Ss.cons (S.ret (E.var 2)) Ss.nil)))
def n_173 : List Str := [(Str.ofString "guard"), (Str.ofString "looks"), (Str.ofString "state"), (Str.ofString "look")]
def d_173 : FD := ⟨(Str.ofString "guard_after"), 2, n_173, b_173⟩
def b_174 : Ss := (Ss.cons (S.ret (E.ix (E.ix (E.var 0) (E.int 1)) (E.call 173 (Es.cons (E.var 0) (Es.cons (E.var 1) Es.nil))))) Ss.nil)
def n_174 : List Str := [(Str.ofString "guard"), (Str.ofString "looks")]
def d_174 : FD := ⟨(Str.ofString "barred_after"), 2, n_174, b_174⟩
def b_78 : Ss := (Ss.cons (S.ret (E.bi .tuple (Es.cons (E.lc [((Str.ofString "one"), 3)] (Tgt.nm 3) (It.range1 (E.var 1)) (Es.cons (E.cmp .gt (E.call 3 (Es.cons (E.var 0) (Es.cons (E.var 2) Es.nil))) (E.int 0)) Es.nil) (E.var 3)) Es.nil))) Ss.nil)
def n_78 : List Str := [(Str.ofString "pool"), (Str.ofString "many"), (Str.ofString "lean"), (Str.ofString "one")]
def d_78 : FD := ⟨(Str.ofString "_law_some"), 3, n_78, b_78⟩
def b_34 : Ss := (Ss.cons (S.asg (Tgt.nm 3) (E.tup Es.nil)) (Ss.cons (S.for_ (Tgt.nm 4) (It.range1 (E.call 3 (Es.cons (E.var 0) (Es.cons (E.bin .add (E.var 2) (E.int 1)) Es.nil)))) (Ss.cons (S.asg (Tgt.nm 3) (E.bin .add (E.var 3) (E.tup (Es.cons (E.call 3 (Es.cons (E.var 0) (Es.cons (E.var 1) Es.nil))) Es.nil)))) Ss.nil)) (Ss.cons (S.ret (E.var 3)) Ss.nil)))
def n_34 : List Str := [(Str.ofString "pool"), (Str.ofString "deeds"), (Str.ofString "most"), (Str.ofString "row"), (Str.ofString "k")]
def d_34 : FD := ⟨(Str.ofString "_law_row"), 3, n_34, b_34⟩
def b_126 : Ss := (Ss.cons (S.ret (E.call 34 (Es.cons (E.var 0) (Es.cons (E.int 4) (Es.cons (E.var 1) Es.nil))))) Ss.nil)
def n_126 : List Str := [(Str.ofString "pool"), (Str.ofString "most")]
def d_126 : FD := ⟨(Str.ofString "_law_looks"), 2, n_126, b_126⟩
def b_175 : Ss := (Ss.cons (S.asg (Tgt.nm 3) (E.bin .add (E.int 1) (E.call 3 (Es.cons (E.var 0) (Es.cons (E.var 2) Es.nil))))) (Ss.cons (S.asg (Tgt.nm 4) (E.tup Es.nil)) (Ss.cons (S.asg (Tgt.nm 5) (E.tup Es.nil)) (Ss.cons (S.for_ (Tgt.nm 6) (It.range1 (E.var 3)) (Ss.cons (S.asg (Tgt.nm 7) (E.tup Es.nil)) (Ss.cons (S.for_ (Tgt.nm 8) (It.range1 (E.int 4)) (Ss.cons (S.asg (Tgt.nm 7) (E.bin .add (E.var 7) (E.tup (Es.cons (E.call 3 (Es.cons (E.var 0) (Es.cons (E.var 3) Es.nil))) Es.nil)))) Ss.nil)) (Ss.cons (S.asg (Tgt.nm 4) (E.bin .add (E.var 4) (E.tup (Es.cons (E.var 7) Es.nil)))) (Ss.cons (S.asg (Tgt.nm 5) (E.bin .add (E.var 5) (E.tup (Es.cons (E.call 78 (Es.cons (E.var 0) (Es.cons (E.var 1) (Es.cons (E.int 2) Es.nil)))) Es.nil)))) Ss.nil))))) (Ss.cons (S.ret (E.tup (Es.cons (E.var 4) (Es.cons (E.var 5) Es.nil)))) Ss.nil)))))
def n_175 : List Str := [(Str.ofString "pool"), (Str.ofString "deeds"), (Str.ofString "most"), (Str.ofString "n"), (Str.ofString "rows"), (Str.ofString "bars"), (Str.ofString "state"), (Str.ofString "row"), (Str.ofString "look")]
def d_175 : FD := ⟨(Str.ofString "_law_guard"), 3, n_175, b_175⟩
def b_16 : Ss := (Ss.cons (S.ite (E.isi .bool (E.var 0)) (Ss.cons (S.ret (E.int 1)) Ss.nil) Ss.nil) (Ss.cons (S.ite (E.isi .int (E.var 0)) (Ss.cons (S.ret (E.int 2)) Ss.nil) Ss.nil) (Ss.cons (S.ite (E.isi .str (E.var 0)) (Ss.cons (S.ret (E.int 3)) Ss.nil) Ss.nil) (Ss.cons (S.ite (E.isi .tuple (E.var 0)) (Ss.cons (S.ret (E.int 4)) Ss.nil) Ss.nil) (Ss.cons (S.ite (E.isi .list (E.var 0)) (Ss.cons (S.ret (E.int 5)) Ss.nil) Ss.nil) (Ss.cons (S.ite (E.cmp .is (E.var 0) E.none) (Ss.cons (S.ret (E.int 6)) Ss.nil) Ss.nil) (Ss.cons (S.ret (E.int 0)) Ss.nil)))))))
def n_16 : List Str := [(Str.ofString "x")]
def d_16 : FD := ⟨(Str.ofString "_law_kind"), 1, n_16, b_16⟩
def b_35 : Ss := (Ss.cons (S.ite (E.or (Es.cons (E.cmp .ne (E.call 16 (Es.cons (E.var 0) Es.nil)) (E.call 16 (Es.cons (E.var 1) Es.nil))) (Es.cons (E.cmp .eq (E.call 16 (Es.cons (E.var 0) Es.nil)) (E.int 0)) Es.nil))) (Ss.cons (S.ret (E.bool false)) Ss.nil) Ss.nil) (Ss.cons (S.ite (E.or (Es.cons (E.isi .tuple (E.var 1)) (Es.cons (E.isi .list (E.var 1)) Es.nil))) (Ss.cons (S.ite (E.cmp .ne (E.bi .len (Es.cons (E.var 0) Es.nil)) (E.bi .len (Es.cons (E.var 1) Es.nil))) (Ss.cons (S.ret (E.bool false)) Ss.nil) Ss.nil) (Ss.cons (S.for_ (Tgt.nm 2) (It.range1 (E.bi .len (Es.cons (E.var 1) Es.nil))) (Ss.cons (S.ite (E.not (E.call 35 (Es.cons (E.ix (E.var 0) (E.var 2)) (Es.cons (E.ix (E.var 1) (E.var 2)) Es.nil)))) (Ss.cons (S.ret (E.bool false)) Ss.nil) Ss.nil) Ss.nil)) (Ss.cons (S.ret (E.bool true)) Ss.nil))) Ss.nil) (Ss.cons (S.ret (E.cmp .eq (E.var 0) (E.var 1))) Ss.nil)))
def n_35 : List Str := [(Str.ofString "x"), (Str.ofString "due"), (Str.ofString "k")]
def d_35 : FD := ⟨(Str.ofString "_law_equal"), 2, n_35, b_35⟩
def b_17 : Ss := (Ss.cons (S.ite (E.var 1) (Ss.cons (S.ret (E.cmp .is (E.var 0) (E.bool true))) Ss.nil) Ss.nil) (Ss.cons (S.ret (E.cmp .is (E.var 0) (E.bool false))) Ss.nil))
def n_17 : List Str := [(Str.ofString "x"), (Str.ofString "due")]
def d_17 : FD := ⟨(Str.ofString "_law_is"), 2, n_17, b_17⟩
def b_18 : Ss := (Ss.cons (S.ret (E.and (Es.cons (E.cmp .eq (E.call 16 (Es.cons (E.var 0) Es.nil)) (E.int 2)) (Es.cons (E.chain .le .le (E.var 1) (E.var 0) (E.var 2)) Es.nil)))) Ss.nil)
def n_18 : List Str := [(Str.ofString "x"), (Str.ofString "low"), (Str.ofString "high")]
def d_18 : FD := ⟨(Str.ofString "_law_int"), 3, n_18, b_18⟩
def b_19 : Ss := (Ss.cons (S.ite (E.not (E.isi .tuple (E.var 0))) (Ss.cons (S.ret (E.bool false)) Ss.nil) Ss.nil) (Ss.cons (S.for_ (Tgt.nm 3) (It.seq (E.var 0)) (Ss.cons (S.ite (E.not (E.call 18 (Es.cons (E.var 3) (Es.cons (E.var 1) (Es.cons (E.var 2) Es.nil))))) (Ss.cons (S.ret (E.bool false)) Ss.nil) Ss.nil) Ss.nil)) (Ss.cons (S.ret (E.bool true)) Ss.nil)))
def n_19 : List Str := [(Str.ofString "x"), (Str.ofString "low"), (Str.ofString "high"), (Str.ofString "one")]
def d_19 : FD := ⟨(Str.ofString "_law_ints"), 3, n_19, b_19⟩
def b_20 : Ss := (Ss.cons (S.for_ (Tgt.nm 1) (It.range2 (E.int 1) (E.bi .len (Es.cons (E.var 0) Es.nil))) (Ss.cons (S.ite (E.not (E.cmp .lt (E.ix (E.var 0) (E.bin .sub (E.var 1) (E.int 1))) (E.ix (E.var 0) (E.var 1)))) (Ss.cons (S.ret (E.bool false)) Ss.nil) Ss.nil) Ss.nil)) (Ss.cons (S.ret (E.bool true)) Ss.nil))
def n_20 : List Str := [(Str.ofString "x"), (Str.ofString "k")]
def d_20 : FD := ⟨(Str.ofString "_law_up"), 1, n_20, b_20⟩
def b_21 : Ss := (Ss.cons (S.ret (E.and (Es.cons (E.call 19 (Es.cons (E.var 0) (Es.cons (E.var 1) (Es.cons (E.var 2) Es.nil)))) (Es.cons (E.call 20 (Es.cons (E.var 0) Es.nil)) Es.nil)))) Ss.nil)
def n_21 : List Str := [(Str.ofString "x"), (Str.ofString "low"), (Str.ofString "high")]
def d_21 : FD := ⟨(Str.ofString "_law_set"), 3, n_21, b_21⟩
def b_23 : Ss := (Ss.cons (S.ite (E.isi .tuple (E.var 1)) (Ss.cons (S.asg (Tgt.nm 2) (E.call 3 (Es.cons (E.var 0) (Es.cons (E.int 10) Es.nil)))) (Ss.cons (S.ite (E.or (Es.cons (E.cmp .eq (E.bi .len (Es.cons (E.var 1) Es.nil)) (E.int 0)) (Es.cons (E.cmp .eq (E.var 2) (E.int 0)) Es.nil))) (Ss.cons (S.ret (E.bin .add (E.var 1) (E.tup (Es.cons (E.ix (E.lst (Es.cons (E.int 0) (Es.cons (E.int 1) (Es.cons (E.tup Es.nil) (Es.cons (E.tup (Es.cons (E.int 0) (Es.cons (E.int 0) Es.nil))) Es.nil))))) (E.call 3 (Es.cons (E.var 0) (Es.cons (E.int 4) Es.nil)))) Es.nil)))) Ss.nil) Ss.nil) (Ss.cons (S.asg (Tgt.nm 3) (E.call 3 (Es.cons (E.var 0) (Es.cons (E.bi .len (Es.cons (E.var 1) Es.nil)) Es.nil)))) (Ss.cons (S.ite (E.cmp .eq (E.var 2) (E.int 1)) (Ss.cons (S.ret (E.bin .add (E.slU (E.var 1) (E.var 3)) (E.slL (E.var 1) (E.bin .add (E.var 3) (E.int 1))))) Ss.nil) Ss.nil) (Ss.cons (S.ite (E.and (Es.cons (E.cmp .eq (E.var 2) (E.int 2)) (Es.cons (E.cmp .eq (E.call 3 (Es.cons (E.var 0) (Es.cons (E.int 3) Es.nil))) (E.int 0)) Es.nil))) (Ss.cons (S.ret (E.bf .list (Es.cons (E.var 1) Es.nil))) Ss.nil) Ss.nil) (Ss.cons (S.ite (E.cmp .eq (E.var 2) (E.int 3)) (Ss.cons (S.ret (E.bin .add (E.bin .add (E.slU (E.var 1) (E.var 3)) (E.tup (Es.cons (E.ix (E.var 1) (E.var 3)) Es.nil))) (E.slL (E.var 1) (E.var 3)))) Ss.nil) Ss.nil) (Ss.cons (S.ite (E.and (Es.cons (E.cmp .eq (E.var 2) (E.int 4)) (Es.cons (E.cmp .gt (E.bi .len (Es.cons (E.var 1) Es.nil)) (E.int 1)) Es.nil))) (Ss.cons (S.asg (Tgt.nm 4) (E.bin .mod (E.bin .add (E.var 3) (E.int 1)) (E.bi .len (Es.cons (E.var 1) Es.nil)))) (Ss.cons (S.asg (Tgt.nm 5) (E.bi .min (Es.cons (E.var 3) (Es.cons (E.var 4) Es.nil)))) (Ss.cons (S.asg (Tgt.nm 6) (E.bi .max (Es.cons (E.var 3) (Es.cons (E.var 4) Es.nil)))) (Ss.cons (S.ret (E.bin .add (E.bin .add (E.bin .add (E.bin .add (E.slU (E.var 1) (E.var 5)) (E.tup (Es.cons (E.ix (E.var 1) (E.var 6)) Es.nil))) (E.slLU (E.var 1) (E.bin .add (E.var 5) (E.int 1)) (E.var 6))) (E.tup (Es.cons (E.ix (E.var 1) (E.var 5)) Es.nil))) (E.slL (E.var 1) (E.bin .add (E.var 6) (E.int 1))))) Ss.nil)))) Ss.nil) (Ss.cons (S.ret (E.bin .add (E.bin .add (E.slU (E.var 1) (E.var 3)) (E.tup (Es.cons (E.call 23 (Es.cons (E.var 0) (Es.cons (E.ix (E.var 1) (E.var 3)) Es.nil))) Es.nil))) (E.slL (E.var 1) (E.bin .add (E.var 3) (E.int 1))))) Ss.nil)))))))) Ss.nil) (Ss.cons (S.ite (E.isi .str (E.var 1)) (Ss.cons (S.ret (E.ix (E.lst (Es.cons (E.bin .add (E.var 1) (E.str (Str.ofString "x"))) (Es.cons (E.str (Str.ofString "")) (Es.cons (E.upper (E.var 1)) (Es.cons E.none (Es.cons (E.int 0) Es.nil)))))) (E.call 3 (Es.cons (E.var 0) (Es.cons (E.int 5) Es.nil))))) Ss.nil) Ss.nil) (Ss.cons (S.ite (E.cmp .eq (E.call 16 (Es.cons (E.var 1) Es.nil)) (E.int 2)) (Ss.cons (S.ret (E.ix (E.lst (Es.cons (E.bin .add (E.var 1) (E.int 1)) (Es.cons (E.bin .sub (E.var 1) (E.int 1)) (Es.cons (E.bin .add (E.var 1) (E.int 1)) (Es.cons (E.bin .sub (E.var 1) (E.int 1)) (Es.cons (E.int 0) (Es.cons (E.bin .add (E.var 1) (E.int 16)) (Es.cons (E.bool true) (Es.cons E.none (Es.cons (E.bi .str (Es.cons (E.var 1) Es.nil)) (Es.cons (E.tup (Es.cons (E.var 1) Es.nil)) Es.nil))))))))))) (E.call 3 (Es.cons (E.var 0) (Es.cons (E.int 10) Es.nil))))) Ss.nil) Ss.nil) (Ss.cons (S.ret (E.ix (E.lst (Es.cons (E.int 0) (Es.cons (E.tup Es.nil) (Es.cons (E.bool false) (Es.cons (E.str (Str.ofString "x")) Es.nil))))) (E.call 3 (Es.cons (E.var 0) (Es.cons (E.int 4) Es.nil))))) Ss.nil))))
def n_23 : List Str := [(Str.ofString "pool"), (Str.ofString "value"), (Str.ofString "way"), (Str.ofString "at"), (Str.ofString "other"), (Str.ofString "low"), (Str.ofString "high")]
def d_23 : FD := ⟨(Str.ofString "_law_bent"), 2, n_23, b_23⟩
def b_24 : Ss := (Ss.cons (S.own 3 (E.lst (Es.cons (E.var 1) Es.nil))) (Ss.cons (S.for_ (Tgt.nm 4) (It.range1 (E.var 2)) (Ss.cons (S.asg (Tgt.nm 5) (E.call 23 (Es.cons (E.var 0) (Es.cons (E.var 1) Es.nil)))) (Ss.cons (S.ite (E.cmp .eq (E.call 3 (Es.cons (E.var 0) (Es.cons (E.int 5) Es.nil))) (E.int 0)) (Ss.cons (S.asg (Tgt.nm 5) (E.call 23 (Es.cons (E.var 0) (Es.cons (E.var 5) Es.nil)))) Ss.nil) Ss.nil) (Ss.cons (S.app 3 (E.var 5)) Ss.nil)))) (Ss.cons (S.ret (E.bin .add (E.pk 3) (E.lst (Es.cons E.none (Es.cons (E.int 0) (Es.cons (E.bool true) (Es.cons (E.str (Str.ofString "")) (Es.cons (E.tup Es.nil) (Es.cons (E.lst Es.nil) (Es.cons (E.str (Str.ofString "x")) (Es.cons (E.tup (Es.cons (E.int 0) Es.nil)) (Es.cons (E.tup (Es.cons (E.str (Str.ofString "x")) (Es.cons (E.int 1) Es.nil))) (Es.cons (E.var 1) Es.nil))))))))))))) Ss.nil)))
def n_24 : List Str := [(Str.ofString "pool"), (Str.ofString "value"), (Str.ofString "many"), (Str.ofString "rows"), (Str.ofString "k"), (Str.ofString "one")]
def d_24 : FD := ⟨(Str.ofString "_law_bends"), 3, n_24, b_24⟩
def b_176 : Ss := (Ss.cons (S.ite (E.or (Es.cons (E.not (E.isi .tuple (E.var 1))) (Es.cons (E.cmp .ne (E.bi .len (Es.cons (E.var 1) Es.nil)) (E.int 2)) (Es.cons (E.not (E.isi .tuple (E.ix (E.var 1) (E.int 0)))) (Es.cons (E.not (E.isi .tuple (E.ix (E.var 1) (E.int 1)))) Es.nil))))) (Ss.cons (S.ret (E.bool false)) Ss.nil) Ss.nil) (Ss.cons (S.asg (Tgt.nm 2) (E.bi .len (Es.cons (E.ix (E.var 1) (E.int 0)) Es.nil))) (Ss.cons (S.ite (E.or (Es.cons (E.cmp .lt (E.var 2) (E.int 1)) (Es.cons (E.cmp .gt (E.var 2) (E.int 5000)) (Es.cons (E.cmp .ne (E.bi .len (Es.cons (E.ix (E.var 1) (E.int 1)) Es.nil)) (E.var 2)) Es.nil)))) (Ss.cons (S.ret (E.bool false)) Ss.nil) Ss.nil) (Ss.cons (S.for_ (Tgt.nm 3) (It.seq (E.ix (E.var 1) (E.int 0))) (Ss.cons (S.ite (E.or (Es.cons (E.not (E.call 19 (Es.cons (E.var 3) (Es.cons (E.int 0) (Es.cons (E.bin .sub (E.var 2) (E.int 1)) Es.nil))))) (Es.cons (E.cmp .ne (E.bi .len (Es.cons (E.var 3) Es.nil)) (E.int 4)) Es.nil))) (Ss.cons (S.ret (E.bool false)) Ss.nil) Ss.nil) Ss.nil)) (Ss.cons (S.for_ (Tgt.nm 4) (It.seq (E.ix (E.var 1) (E.int 1))) (Ss.cons (S.ite (E.not (E.call 21 (Es.cons (E.var 4) (Es.cons (E.int 0) (Es.cons (E.bin .sub (E.var 0) (E.int 1)) Es.nil))))) (Ss.cons (S.ret (E.bool false)) Ss.nil) Ss.nil) Ss.nil)) (Ss.cons (S.ret (E.bool true)) Ss.nil))))))
def n_176 : List Str := [(Str.ofString "deeds"), (Str.ofString "x"), (Str.ofString "n"), (Str.ofString "row"), (Str.ofString "barred")]
def d_176 : FD := ⟨(Str.ofString "_law_is_guard"), 2, n_176, b_176⟩
def b_177 : Ss := (Ss.cons (S.for_ (Tgt.nm 2) (It.seq (E.ix (E.var 0) (E.int 1))) (Ss.cons (S.ite (E.cmp .gt (E.bi .len (Es.cons (E.lc [((Str.ofString "deed"), 3)] (Tgt.nm 3) (It.seq (E.var 2)) (Es.cons (E.cmp .notMem (E.var 3) (E.var 1)) Es.nil) (E.var 3)) Es.nil)) (E.int 0)) (Ss.cons (S.ret (E.bool false)) Ss.nil) Ss.nil) Ss.nil)) (Ss.cons (S.ret (E.bool true)) Ss.nil))
def n_177 : List Str := [(Str.ofString "guard"), (Str.ofString "held"), (Str.ofString "barred"), (Str.ofString "deed")]
def d_177 : FD := ⟨(Str.ofString "_law_bars_only"), 2, n_177, b_177⟩
def lawN : List Str := [(Str.ofString "script"), (Str.ofString "pool"), (Str.ofString "deeds"), (Str.ofString "guard"), (Str.ofString "value"), (Str.ofString "wide"), (Str.ofString "held"), (Str.ofString "looks"), (Str.ofString "state"), (Str.ofString "look")]
def lawB : Ss := (Ss.cons (S.asg (Tgt.nm 2) (E.bin .add (E.int 1) (E.call 3 (Es.cons (E.var 1) (Es.cons (E.int 4) Es.nil))))) (Ss.cons (S.asg (Tgt.nm 3) (E.call 175 (Es.cons (E.var 1) (Es.cons (E.var 2) (Es.cons (E.int 5) Es.nil))))) (Ss.cons (S.for_ (Tgt.nm 4) (It.seq (E.bin .add (E.call 24 (Es.cons (E.var 1) (Es.cons (E.var 3) (Es.cons (E.int 18) Es.nil)))) (E.lst (Es.cons (E.tup (Es.cons (E.tup Es.nil) (Es.cons (E.tup Es.nil) Es.nil))) (Es.cons (E.tup (Es.cons (E.tup (Es.cons (E.tup (Es.cons (E.int 0) (Es.cons (E.int 0) (Es.cons (E.int 0) (Es.cons (E.int 0) Es.nil))))) Es.nil)) (Es.cons (E.tup Es.nil) Es.nil))) (Es.cons (E.tup (Es.cons (E.tup (Es.cons (E.tup (Es.cons (E.int 0) (Es.cons (E.int 0) (Es.cons (E.int 0) Es.nil)))) Es.nil)) (Es.cons (E.tup (Es.cons (E.tup Es.nil) Es.nil)) Es.nil))) (Es.cons (E.tup (Es.cons (E.tup (Es.cons (E.tup (Es.cons (E.int 0) (Es.cons (E.int 0) (Es.cons (E.int 0) (Es.cons (E.int 1) Es.nil))))) Es.nil)) (Es.cons (E.tup (Es.cons (E.tup Es.nil) Es.nil)) Es.nil))) (Es.cons (E.tup (Es.cons (E.tup (Es.cons (E.tup (Es.cons (E.int 0) (Es.cons (E.int 0) (Es.cons (E.int 0) (Es.cons (E.int 0) Es.nil))))) Es.nil)) (Es.cons (E.tup (Es.cons (E.tup (Es.cons (E.var 2) Es.nil)) Es.nil)) Es.nil))) Es.nil)))))))) (Ss.cons (S.ite (E.not (E.call 17 (Es.cons (E.call 169 (Es.cons (E.var 2) (Es.cons (E.var 4) Es.nil))) (Es.cons (E.call 176 (Es.cons (E.var 2) (Es.cons (E.var 4) Es.nil))) Es.nil)))) (Ss.cons (S.ret (E.bool false)) Ss.nil) Ss.nil) Ss.nil)) (Ss.cons (S.asg (Tgt.nm 5) (E.tup (Es.cons (E.bin .mul (E.tup (Es.cons (E.tup (Es.cons (E.int 4999) (Es.cons (E.int 0) (Es.cons (E.int 0) (Es.cons (E.int 0) Es.nil))))) Es.nil)) (E.int 5000)) (Es.cons (E.bin .mul (E.tup (Es.cons (E.tup Es.nil) Es.nil)) (E.int 5000)) Es.nil)))) (Ss.cons (S.ite (E.or (Es.cons (E.not (E.call 17 (Es.cons (E.call 169 (Es.cons (E.var 2) (Es.cons (E.var 5) Es.nil))) (Es.cons (E.bool true) Es.nil)))) (Es.cons (E.not (E.call 17 (Es.cons (E.call 169 (Es.cons (E.var 2) (Es.cons (E.tup (Es.cons (E.bin .add (E.ix (E.var 5) (E.int 0)) (E.tup (Es.cons (E.tup (Es.cons (E.int 0) (Es.cons (E.int 0) (Es.cons (E.int 0) (Es.cons (E.int 0) Es.nil))))) Es.nil))) (Es.cons (E.bin .add (E.ix (E.var 5) (E.int 1)) (E.tup (Es.cons (E.tup Es.nil) Es.nil))) Es.nil))) Es.nil))) (Es.cons (E.bool false) Es.nil)))) Es.nil))) (Ss.cons (S.ret (E.bool false)) Ss.nil) Ss.nil) (Ss.cons (S.asg (Tgt.nm 6) (E.call 78 (Es.cons (E.var 1) (Es.cons (E.var 2) (Es.cons (E.int 2) Es.nil))))) (Ss.cons (S.ite (E.or (Es.cons (E.not (E.call 35 (Es.cons (E.call 170 Es.nil) (Es.cons (E.tup (Es.cons (E.tup (Es.cons (E.tup (Es.cons (E.int 0) (Es.cons (E.int 0) (Es.cons (E.int 0) (Es.cons (E.int 0) Es.nil))))) Es.nil)) (Es.cons (E.tup (Es.cons (E.tup Es.nil) Es.nil)) Es.nil))) Es.nil)))) (Es.cons (E.not (E.call 35 (Es.cons (E.call 171 (Es.cons (E.var 6) Es.nil)) (Es.cons (E.tup (Es.cons (E.tup (Es.cons (E.tup (Es.cons (E.int 0) (Es.cons (E.int 0) (Es.cons (E.int 0) (Es.cons (E.int 0) Es.nil))))) Es.nil)) (Es.cons (E.tup (Es.cons (E.var 6) Es.nil)) Es.nil))) Es.nil)))) Es.nil))) (Ss.cons (S.ret (E.bool false)) Ss.nil) Ss.nil) (Ss.cons (S.ite (E.or (Es.cons (E.not (E.call 17 (Es.cons (E.call 172 (Es.cons (E.var 3) (Es.cons (E.var 6) Es.nil))) (Es.cons (E.call 177 (Es.cons (E.var 3) (Es.cons (E.var 6) Es.nil))) Es.nil)))) (Es.cons (E.not (E.call 17 (Es.cons (E.call 172 (Es.cons (E.call 171 (Es.cons (E.var 6) Es.nil)) (Es.cons (E.var 6) Es.nil))) (Es.cons (E.bool true) Es.nil)))) Es.nil))) (Ss.cons (S.ret (E.bool false)) Ss.nil) Ss.nil) (Ss.cons (S.asg (Tgt.nm 7) (E.call 126 (Es.cons (E.var 1) (Es.cons (E.int 8) Es.nil)))) (Ss.cons (S.asg (Tgt.nm 8) (E.int 0)) (Ss.cons (S.for_ (Tgt.nm 9) (It.seq (E.var 7)) (Ss.cons (S.asg (Tgt.nm 8) (E.ix (E.ix (E.ix (E.var 3) (E.int 0)) (E.var 8)) (E.var 9))) Ss.nil)) (Ss.cons (S.ret (E.call 35 (Es.cons (E.call 174 (Es.cons (E.var 3) (Es.cons (E.var 7) Es.nil))) (Es.cons (E.ix (E.ix (E.var 3) (E.int 1)) (E.var 8)) Es.nil)))) Ss.nil))))))))))))
def tab (rows : List Int) : Tab := [
  (4, .defn d_4),
  (5, .defn d_5),
  (6, .defn d_6),
  (7, .defn d_7),
  (8, .defn d_8),
  (9, .defn d_9),
  (10, .defn d_10),
  (169, .defn d_169),
  (170, .defn d_170),
  (171, .defn d_171),
  (172, .defn d_172),
  (173, .defn d_173),
  (174, .defn d_174),
  (3, .prim (drawC rows)),
  (78, .defn d_78),
  (34, .defn d_34),
  (126, .defn d_126),
  (175, .defn d_175),
  (16, .defn d_16),
  (35, .defn d_35),
  (17, .defn d_17),
  (18, .defn d_18),
  (19, .defn d_19),
  (20, .defn d_20),
  (21, .defn d_21),
  (23, .defn d_23),
  (24, .defn d_24),
  (176, .defn d_176),
  (177, .defn d_177)]
theorem tab_4 {rows : List Int} : (tab rows).lookup 4 = some (.defn d_4) := rfl
theorem tab_5 {rows : List Int} : (tab rows).lookup 5 = some (.defn d_5) := rfl
theorem tab_6 {rows : List Int} : (tab rows).lookup 6 = some (.defn d_6) := rfl
theorem tab_7 {rows : List Int} : (tab rows).lookup 7 = some (.defn d_7) := rfl
theorem tab_8 {rows : List Int} : (tab rows).lookup 8 = some (.defn d_8) := rfl
theorem tab_9 {rows : List Int} : (tab rows).lookup 9 = some (.defn d_9) := rfl
theorem tab_10 {rows : List Int} : (tab rows).lookup 10 = some (.defn d_10) := rfl
theorem tab_169 {rows : List Int} : (tab rows).lookup 169 = some (.defn d_169) := rfl
theorem tab_170 {rows : List Int} : (tab rows).lookup 170 = some (.defn d_170) := rfl
theorem tab_171 {rows : List Int} : (tab rows).lookup 171 = some (.defn d_171) := rfl
theorem tab_172 {rows : List Int} : (tab rows).lookup 172 = some (.defn d_172) := rfl
theorem tab_173 {rows : List Int} : (tab rows).lookup 173 = some (.defn d_173) := rfl
theorem tab_174 {rows : List Int} : (tab rows).lookup 174 = some (.defn d_174) := rfl
theorem tab_3 {rows : List Int} : (tab rows).lookup 3 = some (.prim (drawC rows)) := rfl
theorem tab_78 {rows : List Int} : (tab rows).lookup 78 = some (.defn d_78) := rfl
theorem tab_34 {rows : List Int} : (tab rows).lookup 34 = some (.defn d_34) := rfl
theorem tab_126 {rows : List Int} : (tab rows).lookup 126 = some (.defn d_126) := rfl
theorem tab_175 {rows : List Int} : (tab rows).lookup 175 = some (.defn d_175) := rfl
theorem tab_16 {rows : List Int} : (tab rows).lookup 16 = some (.defn d_16) := rfl
theorem tab_35 {rows : List Int} : (tab rows).lookup 35 = some (.defn d_35) := rfl
theorem tab_17 {rows : List Int} : (tab rows).lookup 17 = some (.defn d_17) := rfl
theorem tab_18 {rows : List Int} : (tab rows).lookup 18 = some (.defn d_18) := rfl
theorem tab_19 {rows : List Int} : (tab rows).lookup 19 = some (.defn d_19) := rfl
theorem tab_20 {rows : List Int} : (tab rows).lookup 20 = some (.defn d_20) := rfl
theorem tab_21 {rows : List Int} : (tab rows).lookup 21 = some (.defn d_21) := rfl
theorem tab_23 {rows : List Int} : (tab rows).lookup 23 = some (.defn d_23) := rfl
theorem tab_24 {rows : List Int} : (tab rows).lookup 24 = some (.defn d_24) := rfl
theorem tab_176 {rows : List Int} : (tab rows).lookup 176 = some (.defn d_176) := rfl
theorem tab_177 {rows : List Int} : (tab rows).lookup 177 = some (.defn d_177) := rfl
/-! ### base: data, small data, loops that check -/
section
variable {rows : List Int} {k n : Nat} {Q : D → Nat → Prop} {d : D}
@[simp] theorem ex_not {a : Bool} {P : Bool → Prop} : (∃ b, a = !b ∧ P b) ↔ P (!a) :=
  ⟨fun ⟨b, h, q⟩ => by subst h; simpa using q, fun q => ⟨!a, by simp, q⟩⟩
@[simp] theorem ex_not' {a : Bool} {P : Bool → Prop} : (∃ b, (!b) = a ∧ P b) ↔ P (!a) :=
  ⟨fun ⟨b, h, q⟩ => by subst h; simpa using q, fun q => ⟨!a, by simp, q⟩⟩
@[simp] theorem atI_c0 {x : D} {xs : List D} : atI (x :: xs) 0 = some x := atI_nat (j := 0) rfl
@[simp] theorem atI_c1 {x y : D} {xs : List D} : atI (x :: y :: xs) 1 = some y := atI_nat (j := 1) rfl
def lenD' : D → Nat
  | .tup xs => xs.length
  | .lst xs => xs.length
  | _ => 0
/-- eyes as lists of ints -/
def tupI (is : List Int) : D := .tup (is.map .int)
def tupII (es : List (List Int)) : D := .tup (es.map tupI)
def isIntD : D → Bool
  | .int _ => true
  | _ => false
def isTupD : D → Bool
  | .tup _ => true
  | _ => false
def intOf : D → Int
  | .int i => i
  | _ => 0
def numIn (d : D) (lo hi : Int) : Bool := match d with
  | .int i => decide (lo ≤ i) && decide (i ≤ hi)
  | _ => false
theorem datas_mem : ∀ {xs : List D} {x : D}, D.datas xs = true → x ∈ xs → x.data = true
  | y :: ys, x, h, m => by
    have h := Bool.and_eq_true_iff.mp h
    rcases List.mem_cons.mp m with rfl | m
    · exact h.1
    · exact datas_mem h.2 m
theorem datas_of : ∀ {xs : List D}, (∀ x ∈ xs, x.data = true) → D.datas xs = true
  | [], _ => rfl
  | y :: ys, h => Bool.and_eq_true_iff.mpr ⟨h y List.mem_cons_self, datas_of fun x m => h x (List.mem_cons_of_mem _ m)⟩
@[simp] theorem boolsD_mapf {α : Type} (l : List α) (p : α → Bool) : boolsD (l.map fun i => .bool (p i)) = some (l.map p) := by
  induction l with
  | nil => rfl
  | cons a l ih => simp [boolsD, ih]
@[simp] theorem intsD_map' {α : Type} (l : List α) (p : α → Int) : intsD (l.map fun i => .int (p i)) = some (l.map p) := by
  induction l with
  | nil => rfl
  | cons a l ih => simp [intsD, ih]
@[simp] theorem all_id {α : Type} (l : List α) (p : α → Bool) : (l.map p).all id = l.all p := by
  rw [List.all_map]; rfl
@[simp] theorem any_id {α : Type} (l : List α) (p : α → Bool) : (l.map p).any id = l.any p := by
  rw [List.any_map]; rfl
/-- a comprehension over mapped items -/
theorem lcGo_map {α : Type} {body : D → M (Option D)} {g : α → D} (f : α → D) : ∀ {l : List α}, (∀ a ∈ l, body (g a) n = some (some (f a), n)) → lcGo body (l.map g) n = some (l.map f, n)
  | [], _ => rfl
  | a :: l, h => by
    show (body (g a) >>= _) n = _
    rw [M.bind_ap, h a List.mem_cons_self]
    show (lcGo body (l.map g) >>= _) n = _
    rw [M.bind_ap, lcGo_map f fun a' ha => h a' (List.mem_cons_of_mem _ ha)]
    rfl
/-- a comprehension that takes some of mapped items -/
theorem lcGo_pick {α : Type} {n : Nat} {body : D → M (Option D)} {g : α → D} (p : α → Bool) (f : α → D) : ∀ {l : List α}, (∀ a ∈ l, body (g a) n = some (if p a = true then some (f a) else none, n)) → lcGo body (l.map g) n = some ((l.filter p).map f, n)
  | [], _ => rfl
  | a :: l, h => by
    show (body (g a) >>= _) n = _
    rw [M.bind_ap, h a List.mem_cons_self]
    show (lcGo body (l.map g) >>= _) n = _
    rw [M.bind_ap, lcGo_pick p f fun a' ha => h a' (List.mem_cons_of_mem _ ha)]
    rw [List.filter_cons]
    cases p a <;> rfl
theorem wp_pick {α : Type} {n : Nat} {body : D → M (Option D)} {g : α → D} {Q : List D → Nat → Prop} (p : α → Bool) (f : α → D) {l : List α} (h : ∀ a ∈ l, wp (body (g a)) n fun r m => r = (if p a = true then some (f a) else none) ∧ m = n) (q : Q ((l.filter p).map f) n) : wp (lcGo body (l.map g)) n Q :=
  wp_of (lcGo_pick p f fun a ha => wp_out (h a ha)) q
theorem wp_mapped {α : Type} {n : Nat} {body : D → M (Option D)} {g : α → D} {Q : List D → Nat → Prop} (f : α → D) {l : List α} (h : ∀ a ∈ l, wp (body (g a)) n fun r m => r = some (f a) ∧ m = n) (q : Q (l.map f) n) : wp (lcGo body (l.map g)) n Q :=
  wp_of (lcGo_map f fun a ha => wp_out (h a ha)) q
theorem mul_tup1 {x : D} {m : Nat} (h : 1 ≤ m) (h2 : m ≤ 1000000) : binD .mul (.tup [x]) (.int m) = some (.tup (List.replicate m x)) := by
  simp only [binD, mulD]
  by_cases h1 : (m : Int) = 1
  · have : m = 1 := by omega
    subst this
    rfl
  · rw [if_neg h1]
    have e : (List.replicate (m : Int).toNat [x]).flatten = List.replicate m x := by
      rw [Int.toNat_natCast]
      clear h h2 h1
      induction m with
      | zero => rfl
      | succ m ih => rw [List.replicate_succ, List.flatten_cons, ih, List.replicate_succ]; rfl
    rw [e]
    have : 2 ≤ (m : Int) := by omega
    have h3 : m ≤ 1000000 := by omega
    simp [this, h3]
/-- a comprehension over a range -/
theorem wp_lc_range {body : D → M (Option D)} {lo : Int} {m : Nat} {Q : List D → Nat → Prop} (f : Nat → D) (h : ∀ i, i < m → wp (body (.int (lo + i))) n fun r m' => r = some (f i) ∧ m' = n) (q : Q ((List.range m).map f) n) : wp (lcGo body (rangeD lo m)) n Q := by
  refine wp_lc_map (fun d => f ((intOf d - lo).toNat)) (fun d hd => ?_) ?_
  · simp only [rangeD, List.mem_map, List.mem_range] at hd
    obtain ⟨i, hi, rfl⟩ := hd
    have : (intOf (.int (lo + i)) - lo).toNat = i := by simp only [intOf]; omega
    rw [this]
    exact h i hi
  · have e : (rangeD lo m).map (fun d => f ((intOf d - lo).toNat)) = (List.range m).map f := by
      simp only [rangeD, List.map_map]
      refine List.map_congr_left fun i _ => ?_
      have : (intOf (.int (lo + i)) - lo).toNat = i := by simp only [intOf]; omega
      simp only [Function.comp, this]
    rw [e]; exact q
/-- a loop that leaves at the first item that fails -/
theorem wp_for_all {ρ : Rho} {fb : D → Rho → M Out} {ds : List D} {Q : Out → Nat → Prop} (p : D → Bool) (R : Rho → Prop) (r : D) (h0 : R ρ)
    (turn : ∀ d ρ, d ∈ ds → R ρ → wp (fb d ρ) n fun o m => m = n ∧ if p d = true then ∃ ρ', (o = .nx ρ' ∨ o = .ct ρ') ∧ R ρ' else o = .rt r)
    (ht : ds.all p = true → ∀ ρ, R ρ → Q (.nx ρ) n) (hf : ds.all p = false → Q (.rt r) n) : wp (forGo fb ds ρ) n Q := by
  refine wp_for (I := fun i ρ m => m = n ∧ R ρ ∧ (ds.take i).all p = true) ⟨rfl, h0, by simp⟩ ?_ ?_
  · rintro i d ρ m hd ⟨rfl, hR, ha⟩
    have hm : d ∈ ds := List.mem_of_getElem? hd
    refine (turn d ρ hm hR).mono fun o m' ⟨e, h⟩ => ?_
    subst e
    have hlt : i < ds.length := (List.getElem?_eq_some_iff.mp hd).1
    have hde : ds[i] = d := (List.getElem?_eq_some_iff.mp hd).2
    by_cases hp : p d = true
    · rw [if_pos hp] at h
      obtain ⟨ρ', h, hR'⟩ := h
      have hn : (ds.take (i + 1)).all p = true := by
        rw [List.take_add_one, List.all_append, ha, hd]
        simp [hp]
      rcases h with rfl | rfl
      · exact ⟨rfl, hR', hn⟩
      · exact ⟨rfl, hR', hn⟩
    · rw [if_neg hp] at h
      subst h
      refine hf ?_
      rw [Bool.eq_false_iff]
      intro z
      exact hp (List.all_eq_true.mp z d hm)
  · rintro ρ m ⟨rfl, hR, ha⟩
    rw [List.take_length] at ha
    exact ht ha ρ hR
/-- .. over a range -/
theorem wp_for_all_range {ρ : Rho} {fb : D → Rho → M Out} {lo : Int} {m : Nat} {Q : Out → Nat → Prop} (p : Nat → Bool) (R : Rho → Prop) (r : D) (h0 : R ρ)
    (turn : ∀ i ρ, i < m → R ρ → wp (fb (.int (lo + i)) ρ) n fun o m => m = n ∧ if p i = true then ∃ ρ', (o = .nx ρ' ∨ o = .ct ρ') ∧ R ρ' else o = .rt r)
    (ht : (List.range m).all p = true → ∀ ρ, R ρ → Q (.nx ρ) n) (hf : (List.range m).all p = false → Q (.rt r) n) : wp (forGo fb (rangeD lo m) ρ) n Q := by
  have e : (rangeD lo m).all (fun d => p ((intOf d - lo).toNat)) = (List.range m).all p := by
    simp only [rangeD, List.all_map]
    congr 1
    funext i
    have : (intOf (.int (lo + i)) - lo).toNat = i := by simp only [intOf]; omega
    simp only [Function.comp, this]
  refine wp_for_all (fun d => p ((intOf d - lo).toNat)) R r h0 (fun d ρ hd hR => ?_) (by rw [e]; exact ht) (by rw [e]; exact hf)
  simp only [rangeD, List.mem_map, List.mem_range] at hd
  obtain ⟨i, hi, rfl⟩ := hd
  have : (intOf (.int (lo + i)) - lo).toNat = i := by simp only [intOf]; omega
  rw [this]
  exact turn i ρ hi hR
/-- small data: depth at most e, lengths, ints, texts at most t -/
def Sm (t : Nat) : Nat → D → Prop
  | _, .none => True
  | _, .bool _ => True
  | _, .int i => i.natAbs ≤ t
  | _, .str s => s.length ≤ t
  | e + 1, .tup xs => xs.length ≤ t ∧ ∀ x ∈ xs, Sm t e x
  | e + 1, .lst xs => xs.length ≤ t ∧ ∀ x ∈ xs, Sm t e x
  | _, _ => False
@[simp] theorem sm_none {t e : Nat} : Sm t e .none = True := by cases e <;> rfl
@[simp] theorem sm_bool {t e : Nat} {b : Bool} : Sm t e (.bool b) = True := by cases e <;> rfl
@[simp] theorem sm_int {t e : Nat} {i : Int} : Sm t e (.int i) = (i.natAbs ≤ t) := by cases e <;> rfl
@[simp] theorem sm_str {t e : Nat} {s : Str} : Sm t e (.str s) = (s.length ≤ t) := by cases e <;> rfl
@[simp] theorem sm_tup {t e : Nat} {xs : List D} : Sm t (e + 1) (.tup xs) = (xs.length ≤ t ∧ ∀ x ∈ xs, Sm t e x) := rfl
@[simp] theorem sm_lst {t e : Nat} {xs : List D} : Sm t (e + 1) (.lst xs) = (xs.length ≤ t ∧ ∀ x ∈ xs, Sm t e x) := rfl
@[simp] theorem sm_tup0 {t : Nat} {xs : List D} : Sm t 0 (.tup xs) = False := rfl
@[simp] theorem sm_lst0 {t : Nat} {xs : List D} : Sm t 0 (.lst xs) = False := rfl
@[simp] theorem sm_pool {t e : Nat} : Sm t e .pool = False := by cases e <;> rfl
@[simp] theorem sm_scr {t e : Nat} {ns : List Int} : Sm t e (.scr ns) = False := by cases e <;> rfl
theorem Sm.mono {t t' : Nat} (ht : t ≤ t') : ∀ {e e' : Nat} {d : D}, e ≤ e' → Sm t e d → Sm t' e' d
  | e, e', .none, _, _ => by simp
  | e, e', .bool _, _, _ => by simp
  | e, e', .int _, _, h => by simp at h ⊢; omega
  | e, e', .str _, _, h => by simp at h ⊢; omega
  | 0, e', .tup _, _, h => h.elim
  | 0, e', .lst _, _, h => h.elim
  | e + 1, 0, .tup _, he, h => by omega
  | e + 1, 0, .lst _, he, h => by omega
  | e + 1, e' + 1, .tup xs, he, h => by
    simp at h ⊢
    exact ⟨by omega, fun x hx => Sm.mono ht (by omega) (h.2 x hx)⟩
  | e + 1, e' + 1, .lst xs, he, h => by
    simp at h ⊢
    exact ⟨by omega, fun x hx => Sm.mono ht (by omega) (h.2 x hx)⟩
  | e, e', .pool, _, h => by simp at h
  | e, e', .scr _, _, h => by simp at h
theorem Sm.data {t : Nat} : ∀ {e : Nat} {d : D}, Sm t e d → d.data = true
  | e, .none, _ => rfl
  | e, .bool _, _ => rfl
  | e, .int _, _ => rfl
  | e, .str _, _ => rfl
  | 0, .tup _, h => h.elim
  | 0, .lst _, h => h.elim
  | e + 1, .tup xs, h => datas_of fun x hx => Sm.data (h.2 x hx)
  | e + 1, .lst xs, h => datas_of fun x hx => Sm.data (h.2 x hx)
  | e, .pool, h => by simp at h
  | e, .scr _, h => by simp at h
theorem mem_cutD {xs : List D} {lo hi : Option Int} {x : D} (h : x ∈ cutD xs lo hi) : x ∈ xs := List.mem_of_mem_drop (List.mem_of_mem_take h)
theorem cutD_le {xs : List D} {lo hi : Option Int} : (cutD xs lo hi).length ≤ xs.length := by
  unfold cutD
  rw [List.length_take, List.length_drop]
  omega
theorem atI_mem {xs : List D} {i : Int} (h0 : 0 ≤ i) (h1 : i < xs.length) : ∃ x, atI xs i = some x ∧ x ∈ xs := by
  obtain ⟨j, rfl⟩ : ∃ j : Nat, i = j := ⟨i.toNat, by omega⟩
  have hj : j < xs.length := by omega
  exact ⟨xs[j], atI_ok hj, List.getElem_mem hj⟩
theorem draw_ix {xs : List D} {i : Int} {Q : D → Prop} (h0 : 0 ≤ i) (h1 : i < xs.length) (h : ∀ x ∈ xs, Q x) : Ex1 (atI xs i) Q := by
  obtain ⟨x, e, m⟩ := atI_mem h0 h1
  exact ex1_of e (h x m)
theorem drawI_bd {m : Int} (h : 0 < m) : 0 ≤ drawI rows n m ∧ drawI rows n m < m := fmod_bound h
theorem wp_drawC {m : Int} : wp (drawC rows [.pool, .int m]) n Q ↔ (0 < m ∧ 0 < rows.length ∧ rows.length < 1073741824 ∧ n < 1152921504606846976) ∧ Q (.int (drawI rows n m)) (n + 1) := by
  constructor
  · rintro ⟨a, n', e, q⟩
    unfold drawC at e
    simp only at e
    split at e
    · cases e
      exact ⟨by assumption, q⟩
    · cases e
  · rintro ⟨h, q⟩
    refine ⟨_, _, ?_, q⟩
    unfold drawC
    simp only
    rw [if_pos h]
theorem digits_len (b : Nat) : ∀ (f n : Nat) (ds : List Char), (Nat.toDigitsCore b f n ds).length ≤ f + ds.length
  | 0, n, ds => by simp [Nat.toDigitsCore]
  | f + 1, n, ds => by
    unfold Nat.toDigitsCore
    simp only
    split
    · simp; omega
    · have := digits_len b f (n / b) (Nat.digitChar (n % b) :: ds)
      simp at this
      omega
end

section
theorem le_int {a b : Int} : leD' (.int a) (.int b) = decide (a ≤ b) := by
  show (!PySem.W.dataLt (.int b) (.int a)) = _
  rw [PySem.W.dataLt_int]
  by_cases h : b < a
  · have : ¬ a ≤ b := by omega
    simp [h, this]
  · have : a ≤ b := by omega
    simp [h, this]
theorem sort_ints {is js : List Int} (hl : is.length ≤ 16777216) (hp : is.Perm js) (hs : js.Pairwise (· ≤ ·)) : Bf.op .sorted [.lst (is.map .int)] = some (js.map .int) := by
  have e1 : (is.mergeSort fun a b => decide (a ≤ b)) = js := by
    have h1 := List.mergeSort_perm is fun a b => decide (a ≤ b)
    have h2 : (is.mergeSort fun a b => decide (a ≤ b)).Pairwise fun a b => decide (a ≤ b) = true := List.pairwise_mergeSort (fun a b c h h' => by simp at *; omega) (fun a b => by simp; omega) is
    refine List.Perm.eq_of_pairwise (le := fun a b : Int => a ≤ b) (fun a b _ _ h h' => by omega) (h2.imp fun h => by simpa using h) hs (h1.trans hp)
  have e2 : sortD (is.map .int) = js.map .int := by
    unfold sortD
    rw [← e1]
    have h : ∀ a ∈ is, ∀ b ∈ is, (fun a b : Int => decide (a ≤ b)) a b = leD' (D.int a) (D.int b) := fun a _ b _ => le_int.symm
    exact (List.map_mergeSort (f := D.int) h).symm
  have c1 : (is.map D.int).all okD = true := by
    rw [List.all_map]
    exact List.all_eq_true.mpr fun x _ => rfl
  have c2 : alikeAllB ((is.map D.int).map D.py) = true := by
    unfold alikeAllB
    refine List.all_eq_true.mpr fun x hx => List.all_eq_true.mpr fun y hy => ?_
    simp only [List.mem_map] at hx hy
    obtain ⟨_, ⟨a, _, rfl⟩, rfl⟩ := hx
    obtain ⟨_, ⟨b, _, rfl⟩, rfl⟩ := hy
    simp [D.py, PySem.W.alike]
  have c3 : sortable ((is.map D.int).map D.py) = true := by
    unfold sortable
    rw [Bool.or_eq_true]
    right
    refine List.all_eq_true.mpr fun x hx => ?_
    simp only [List.mem_map] at hx
    obtain ⟨_, ⟨a, _, rfl⟩, rfl⟩ := hx
    rfl
  simp only [Bf.op, sortedD, c1, c2, c3, Bool.and_self, Bool.true_and, List.length_map, decide_eq_true_eq]
  rw [if_pos hl, e2]
theorem okD_ints {is : List Int} : okD (.tup (is.map .int)) = true := by
  have h1 : D.data (.tup (is.map .int)) = true := datas_of fun x hx => by
    obtain ⟨i, _, rfl⟩ := List.mem_map.mp hx
    rfl
  have h2 : ∀ l : List Int, PyData.canLayAll0 (D.pys (l.map .int)) = true ∧ PyData.depthAll (D.pys (l.map .int)) ≤ 0 := by
    intro l
    induction l with
    | nil => exact ⟨rfl, Nat.le_refl _⟩
    | cons a l ih =>
      refine ⟨?_, ?_⟩
      · simp only [List.map_cons, D.pys, PyData.canLayAll0, ih.1, D.py, PyData.canLay0, Bool.and_self]
      · simp only [List.map_cons, D.pys, PyData.depthAll, D.py, PyData.depth]
        have := ih.2
        omega
  unfold okD
  rw [h1]
  simp only [Bool.true_and, SeqAt.shaped, D.py, PyData.canLay0, (h2 is).1, PyData.depth, decide_eq_true_eq]
  have := (h2 is).2
  omega
theorem any_ints {is : List Int} {i : Int} : ((D.pys (is.map .int)).any fun z => PyData.eqv z (D.py (.int i))) = decide (i ∈ is) := by
  induction is with
  | nil => simp [D.pys]
  | cons a l ih =>
    have e : D.py (.int i) = PyData.int i := rfl
    have e' : D.py (.int a) = PyData.int a := rfl
    rw [e] at ih ⊢
    simp only [List.map_cons, D.pys, List.any_cons, ih, e', PyData.eqv, List.mem_cons]
    by_cases h : a = i
    · subst h; simp
    · have h' : ¬ i = a := fun e => h e.symm
      simp [h, h']
@[simp] theorem mem_ints {is : List Int} {i : Int} : cmpD .mem (.int i) (.tup (is.map .int)) = some (decide (i ∈ is)) := by
  simp only [cmpD, inD]
  rw [okD_int, okD_ints]
  simp only [Bool.and_self, if_true]
  rw [any_ints]
@[simp] theorem notMem_ints {is : List Int} {i : Int} : cmpD .notMem (.int i) (.tup (is.map .int)) = some (!decide (i ∈ is)) := by
  have h := @mem_ints is i
  simp only [cmpD] at h ⊢
  rw [h]; rfl
end

section
variable {rows : List Int} {k n : Nat} {Q : D → Nat → Prop} {d : D}
structure RowsSm (n dd : Nat) (rs : List (List Int)) : Prop where
  len : rs.length = n
  row : ∀ r ∈ rs, r.length = dd
  bd : ∀ r ∈ rs, ∀ i ∈ r, -1 ≤ i ∧ i ≤ 40
theorem rowSm {r : List Int} (h : ∀ i ∈ r, -1 ≤ i ∧ i ≤ 40) (hd : r.length ≤ 40) : Sm 40 1 (tupI r) := by
  refine ⟨by simpa using hd, fun y hy => ?_⟩
  obtain ⟨i, hi, rfl⟩ := List.mem_map.mp hy
  have := h i hi
  simp
  omega
theorem RowsSm.sm {n dd : Nat} {rs : List (List Int)} (h : RowsSm n dd rs) (hn : n ≤ 40) (hd : dd ≤ 40) : Sm 40 2 (tupII rs) := by
  refine ⟨by simp [h.len]; omega, fun x hx => ?_⟩
  obtain ⟨e, he, rfl⟩ := List.mem_map.mp hx
  exact rowSm (h.bd e he) (by rw [h.row e he]; exact hd)
/-- some of the numbers below N, by draws -/
theorem pick_sm {N c : Nat} {ρ : Rho} {body : D → M (Option D)} {Q : List D → Nat → Prop} (hN : N ≤ 40) (hb : ∀ i n', i < N → n' ≤ n + i → wp (body (.int ((0 : Int) + (i : Nat)))) n' fun r m => (r = some (.int i) ∨ r = none) ∧ m = n' + 1)
    (h : ∀ es : List Int, es.length ≤ N → (∀ i ∈ es, -1 ≤ i ∧ i ≤ 40) → Q (es.map .int) (n + N)) : wp (lcGo body (rangeD 0 N)) n Q := by
  refine wp_lcGo (I := fun i acc n' => n' = n + i ∧ ∃ es : List Int, acc = es.map .int ∧ es.length ≤ i ∧ ∀ x ∈ es, -1 ≤ x ∧ x ≤ 40) ⟨rfl, [], rfl, by simp, by simp⟩ ?_ ?_
  · rintro i d acc n' hd ⟨rfl, es, rfl, hl, he⟩
    obtain ⟨hi, rfl⟩ := range_get.mp hd
    refine (hb i (n + i) hi (by omega)).mono fun r m ⟨hr, hm⟩ => ?_
    rcases hr with rfl | rfl
    · refine ⟨by omega, es ++ [(i : Int)], by simp, by simp; omega, fun x hx => ?_⟩
      rcases List.mem_append.mp hx with hx | hx
      · exact he x hx
      · simp at hx; subst hx; omega
    · exact ⟨by omega, es, by simp, by omega, he⟩
  · rintro rs n' ⟨rfl, es, rfl, hl, he⟩
    simp at hl
    simpa using h es hl he
end

section
variable {rows : List Int} {k n : Nat} {Q : D → Nat → Prop} {d : D}
/-- is_integer -/
theorem f4 (hd : d.data = true) : wp (callF (tab rows) (k + 1) 4 [d]) n Q ↔ Q (.bool (isIntD d)) n := by
  refine wp_eq (wp_out ?_)
  rw [wp_def tab_4 rfl]
  cases d <;> simp_all [d_4, b_4, n_4, isIntD, D.data]
end

section
variable {rows : List Int} {k n : Nat} {Q : D → Nat → Prop} {d : D}
/-- is_number -/
theorem f5 {lo hi : Int} (hd : d.data = true) : wp (callF (tab rows) (k + 2) 5 [d, .int lo, .int hi]) n Q ↔ Q (.bool (numIn d lo hi)) n := by
  refine wp_eq (wp_out ?_)
  rw [wp_def tab_5 rfl]
  simp [d_5, b_5, n_5, f4 hd, -Bool.exists_bool]
  cases d <;> simp [isIntD, numIn, -Bool.exists_bool]
  rename_i i
  by_cases h : lo ≤ i <;> simp [h, -Bool.exists_bool]
end

section
variable {rows : List Int} {k n : Nat} {Q : D → Nat → Prop} {d : D}
def isTupN (d : D) (m : Int) : Bool := match d with
  | .tup xs => decide ((xs.length : Int) = m)
  | _ => false
/-- is_tuple -/
theorem f6 {m : Int} (hd : d.data = true) : wp (callF (tab rows) (k + 1) 6 [d, .int m]) n Q ↔ Q (.bool (isTupN d m)) n := by
  refine wp_eq (wp_out ?_)
  rw [wp_def tab_6 rfl]
  cases d <;> simp_all [d_6, b_6, n_6, isTupN, D.data, -Bool.exists_bool]
end

section
variable {rows : List Int} {k n : Nat} {Q : D → Nat → Prop} {d : D}
def isBtw (d : D) (lo hi : Int) : Bool := match d with
  | .tup xs => decide (lo ≤ xs.length) && decide ((xs.length : Int) ≤ hi)
  | _ => false
/-- is_between -/
theorem f7 {lo hi : Int} (hd : d.data = true) : wp (callF (tab rows) (k + 1) 7 [d, .int lo, .int hi]) n Q ↔ Q (.bool (isBtw d lo hi)) n := by
  refine wp_eq (wp_out ?_)
  rw [wp_def tab_7 rfl]
  cases d with
  | tup xs =>
    simp [d_7, b_7, n_7, isBtw]
    by_cases h : lo ≤ (xs.length : Int) <;> simp [h]
  | _ => simp_all [d_7, b_7, n_7, isBtw, D.data]
end

section
variable {rows : List Int} {k n : Nat} {Q : D → Nat → Prop} {d : D}
def upD (xs : List D) : Bool := (List.range (xs.length - 1)).all fun i => decide (intOf (xs.getD i .none) < intOf (xs.getD (i + 1) .none))
theorem allInt_get {xs : List D} (h : ∀ x ∈ xs, isIntD x = true) {i : Nat} (hi : i < xs.length) : xs[i]? = some (.int (intOf (xs.getD i .none))) := by
  have h1 := h xs[i] (List.getElem_mem hi)
  rw [List.getD_eq_getElem?_getD, List.getElem?_eq_getElem hi]
  simp only [Option.getD_some]
  cases e : xs[i] <;> rw [e] at h1 <;> first | rfl | cases h1
theorem atI_int {xs : List D} (h : ∀ x ∈ xs, isIntD x = true) {i : Nat} (hi : i < xs.length) : atI xs (i : Int) = some (.int (intOf (xs.getD i .none))) := atI_nat (allInt_get h hi)
/-- is_ascending, of ints -/
theorem f8 {xs : List D} (h : ∀ x ∈ xs, isIntD x = true) (hl : xs.length ≤ 16777216) : wp (callF (tab rows) (k + 1) 8 [.tup xs]) n Q ↔ Q (.bool (upD xs)) n := by
  refine wp_eq (wp_out ?_)
  rw [wp_def tab_8 rfl]
  simp [d_8, b_8, n_8]
  rw [range2_eq (by omega)]
  simp
  refine ⟨by omega, wp_lc_range (fun i => .bool (decide (intOf (xs.getD i .none) < intOf (xs.getD (i + 1) .none)))) (fun i hi => ?_) ?_⟩
  · have h1 : i < xs.length := by omega
    have h2 : i + 1 < xs.length := by omega
    have e1 : (1 + (i : Int)) - 1 = (i : Int) := by omega
    have e2 : 1 + (i : Int) = ((i + 1 : Nat) : Int) := by omega
    simp [e1, atI_int h h1, -Bool.exists_bool]
    rw [e2, atI_int h h2]
    simp [-Bool.exists_bool]
  · have e : ((xs.length : Int) - 1).toNat = xs.length - 1 := by omega
    simp [e, upD]
end

section
variable {rows : List Int} {k n : Nat} {Q : D → Nat → Prop} {d : D}
def tupAll (d : D) (p : D → Bool) : Bool := match d with
  | .tup xs => xs.all p
  | _ => false
/-- are_integers -/
theorem f9 {lo hi : Int} (hd : d.data = true) (hl : ∀ xs, d = .tup xs → xs.length ≤ 16777216) : wp (callF (tab rows) (k + 3) 9 [d, .int lo, .int hi]) n Q ↔ Q (.bool (tupAll d fun x => numIn x lo hi)) n := by
  refine wp_eq (wp_out ?_)
  rw [wp_def tab_9 rfl]
  cases d with
  | tup xs =>
    have hx := fun x hx => datas_mem (x := x) hd hx
    simp [d_9, b_9, n_9]
    refine ⟨hl _ rfl, wp_lc_map (fun x => .bool (numIn x lo hi)) (fun x hx' => ?_) ?_⟩
    · simp [f5 (hx x hx')]
    · simp [tupAll]
  | _ => simp_all [d_9, b_9, n_9, tupAll, D.data]
end

section
variable {rows : List Int} {k n : Nat} {Q : D → Nat → Prop} {d : D}
theorem numIn_int {x : D} {lo hi : Int} (h : numIn x lo hi = true) : isIntD x = true := by
  cases x <;> first | rfl | cases h
/-- a tuple of ascending numbers -/
def isNums (d : D) (lo hi : Int) : Bool := match d with
  | .tup xs => (xs.all fun x => numIn x lo hi) && upD xs
  | _ => false
/-- are_numbers -/
theorem f10 {lo hi : Int} (hd : d.data = true) (hl : ∀ xs, d = .tup xs → xs.length ≤ 16777216) : wp (callF (tab rows) (k + 4) 10 [d, .int lo, .int hi]) n Q ↔ Q (.bool (isNums d lo hi)) n := by
  refine wp_eq (wp_out ?_)
  rw [wp_def tab_10 rfl]
  simp [d_10, b_10, n_10, f9 hd hl, -Bool.exists_bool, -List.all_eq_true]
  cases d with
  | tup xs =>
    split
    · rename_i h
      have h : (xs.all fun x => numIn x lo hi) = true := h
      rw [f8 (fun x hx => numIn_int (List.all_eq_true.mp h x hx)) (hl _ rfl)]
      simp only [isNums, h, Bool.true_and, and_self]
    · rename_i h
      have h : ¬ (xs.all fun x => numIn x lo hi) = true := h
      simp only [isNums, Bool.eq_false_iff.mpr h, Bool.false_and]
  | _ => simp [tupAll, isNums]
end

section
variable {rows : List Int} {k n : Nat} {Q : D → Nat → Prop} {d : D}
def isGd (dd : Int) (d : D) : Bool := match d with
  | .tup [.tup rs, .tup bs] => decide (1 ≤ rs.length) && decide (rs.length ≤ 5000) && decide (bs.length = rs.length) && (rs.all fun r => isTupN r 4 && tupAll r fun x => numIn x 0 ((rs.length : Int) - 1)) && (bs.all fun b => isNums b 0 (dd - 1))
  | _ => false
theorem Sm.len' {t e : Nat} {d : D} (h : Sm t e d) (ht : t ≤ 10000) : ∀ xs, d = .tup xs → xs.length ≤ 16777216 := by
  rintro xs rfl
  cases e with
  | zero => exact h.elim
  | succ e => have := h.1; omega
theorem isTupN_tup {xs : List D} {m : Int} : isTupN (.tup xs) m = decide ((xs.length : Int) = m) := rfl
/-- is_guard -/
theorem f169 {dd : Int} {t e : Nat} (ht : t ≤ 10000) (hs : Sm t e d) : wp (callF (tab rows) (k + 5) 169 [.int dd, d]) n Q ↔ Q (.bool (isGd dd d)) n := by
  refine wp_eq (wp_out ?_)
  rw [wp_def tab_169 rfl]
  have hd := hs.data
  simp [d_169, b_169, n_169, f6 hd]
  cases d with
  | tup xs =>
    cases e with
    | zero => exact hs.elim
    | succ e =>
    match xs, hs with
    | [], hs => simp [isTupN, isGd]
    | [_], hs => simp [isTupN, isGd]
    | _ :: _ :: _ :: _, hs => simp [isTupN, isGd]; omega
    | [a, b], hs =>
      have ha : Sm t e a := hs.2 a (by simp)
      have hb : Sm t e b := hs.2 b (by simp)
      simp [isTupN, f7 ha.data]
      cases a with
      | pool => simp at ha
      | scr ns => simp at ha
      | tup rs =>
        cases e with
        | zero => exact ha.elim
        | succ e =>
        have hr : ∀ r ∈ rs, Sm t e r := ha.2
        have hl := ha.1
        by_cases h1 : 1 ≤ rs.length
        · by_cases h5 : rs.length ≤ 5000
          · have c1 : (1 : Int) ≤ rs.length := by omega
            have c2 : (rs.length : Int) ≤ 5000 := by omega
            simp [isBtw, c1, c2, f6 hb.data]
            cases b with
            | tup bs =>
              have hbl := hb.1
              have hbm : ∀ r ∈ bs, Sm t e r := hb.2
              by_cases he : bs.length = rs.length
              · have im : isGd dd (.tup [.tup rs, .tup bs]) = ((rs.all fun r => isTupN r 4 && tupAll r fun x => numIn x 0 ((rs.length : Int) - 1)) && (bs.all fun b => isNums b 0 (dd - 1))) := by
                  unfold isGd
                  simp only [h1, h5, he, decide_true, Bool.true_and]
                rw [im]
                simp [isTupN_tup, he, -List.all_eq_true, -List.all_eq_false]
                refine ⟨by omega, wp_lc_map (fun r => .bool (isTupN r 4 && tupAll r fun x => numIn x 0 ((rs.length : Int) - 1))) (fun r hr' => ?_) ?_⟩
                · simp [f6 (hr r hr').data]
                  by_cases q : isTupN r 4 = true
                  · simp [q, f9 (k := k + 1) (hr r hr').data ((hr r hr').len' ht)]
                  · simp [q]
                · simp [-List.all_eq_true, -List.all_eq_false]
                  split
                  · rename_i q
                    rw [q]
                    refine ⟨by omega, wp_lc_map (fun r => .bool (isNums r 0 (dd - 1))) (fun r hr' => ?_) ?_⟩
                    · simp [f10 (k := k) (hbm r hr').data ((hbm r hr').len' ht)]
                    · simp [-List.all_eq_true, -List.all_eq_false]
                  · rename_i q
                    rw [Bool.eq_false_iff.mpr q]
                    simp
              · have he' : ¬ ((bs.length : Nat) : Int) = rs.length := by omega
                simp [isTupN, he', isGd, he]
            | _ => simp [isTupN, isGd]
          · have c2 : ¬ (rs.length : Int) ≤ 5000 := by omega
            simp [isBtw, c2]
            cases b <;> first | rfl | skip
            unfold isGd
            simp only [h5, decide_false, Bool.and_false, Bool.false_and]
        · have c1 : ¬ (1 : Int) ≤ rs.length := by omega
          simp [isBtw, c1]
          cases b <;> first | rfl | skip
          unfold isGd
          simp only [h1, decide_false, Bool.false_and]
      | _ => simp [isBtw, isGd]
  | _ => simp [isTupN, isGd]
end

section
variable {rows : List Int} {k n : Nat} {Q : D → Nat → Prop} {d : D}
/-- open_guard -/
theorem f170 : wp (callF (tab rows) (k + 1) 170 []) n Q ↔ Q (.tup [.tup [.tup [.int 0, .int 0, .int 0, .int 0]], .tup [.tup []]]) n := by
  refine wp_eq (wp_out ?_)
  rw [wp_def tab_170 rfl]
  simp [d_170, b_170, n_170]
end

section
variable {rows : List Int} {k n : Nat} {Q : D → Nat → Prop} {d : D}
/-- shut_guard -/
theorem f171 {xs : List D} : wp (callF (tab rows) (k + 1) 171 [.tup xs]) n Q ↔ Q (.tup [.tup [.tup [.int 0, .int 0, .int 0, .int 0]], .tup [.tup xs]]) n := by
  refine wp_eq (wp_out ?_)
  rw [wp_def tab_171 rfl]
  simp [d_171, b_171, n_171]
end

section
variable {rows : List Int} {k n : Nat} {Q : D → Nat → Prop} {d : D}
/-- bars_only -/
theorem f172 {x : D} {bs : List (List Int)} {hs : List Int} (hl : bs.length ≤ 10000) (h : ∀ b ∈ bs, b.length ≤ 10000) : wp (callF (tab rows) (k + 1) 172 [.tup [x, tupII bs], tupI hs]) n Q ↔ Q (.bool (bs.all fun b => b.all fun i => decide (i ∈ hs))) n := by
  refine wp_eq (wp_out ?_)
  rw [wp_def tab_172 rfl]
  simp [d_172, b_172, n_172, tupII, -List.all_eq_true, -List.all_eq_false]
  refine ⟨by omega, wp_of (lcGo_map (fun b => .bool (b.all fun i => decide (i ∈ hs))) fun b hb => wp_out ?_) ?_⟩
  · have := h b hb
    simp [tupI, -List.all_eq_true, -List.all_eq_false]
    refine ⟨by omega, wp_of (lcGo_map (fun i => .bool (decide (i ∈ hs))) fun i hi => wp_out ?_) ?_⟩
    · simp
    · simp [-List.all_eq_true, -List.all_eq_false]
  · simp [-List.all_eq_true, -List.all_eq_false]
end

section
variable {rows : List Int} {k n : Nat} {Q : D → Nat → Prop} {d : D}
/-- the state behind looks -/
def gAfter (rs : List (List Int)) : List Int → Int → Int
  | [], s => s
  | l :: ls, s => gAfter rs ls ((rs.getD s.toNat []).getD l.toNat 0)
/-- rows that lead among n states, four looks each -/
structure GRows (n : Nat) (rs : List (List Int)) : Prop where
  len : rs.length = n
  row : ∀ r ∈ rs, r.length = 4
  bd : ∀ r ∈ rs, ∀ i ∈ r, 0 ≤ i ∧ i < (n : Int)
theorem g_step {n : Nat} {rs : List (List Int)} (h : GRows n rs) {s l : Int} (s0 : 0 ≤ s) (s1 : s < n) (l0 : 0 ≤ l) (l1 : l < 4) : ∃ r t, atI (rs.map tupI) s = some (tupI r) ∧ atI (r.map D.int) l = some (.int t) ∧ t = (rs.getD s.toNat []).getD l.toNat 0 ∧ 0 ≤ t ∧ t < n := by
  obtain ⟨i, rfl⟩ : ∃ i : Nat, s = i := ⟨s.toNat, by omega⟩
  obtain ⟨j, rfl⟩ : ∃ j : Nat, l = j := ⟨l.toNat, by omega⟩
  have hi : i < rs.length := by rw [h.len]; omega
  have hm := List.getElem_mem hi
  have hj : j < rs[i].length := by rw [h.row _ hm]; omega
  have b := h.bd _ hm _ (List.getElem_mem hj)
  refine ⟨rs[i], rs[i][j], atI_nat (j := i) (by simp [hi]), atI_nat (j := j) (by simp [hj]), ?_, b.1, b.2⟩
  simp [List.getD_eq_getElem?_getD, hi, hj]
/-- guard_after -/
theorem f173 {N : Nat} {rs : List (List Int)} {ls : List Int} {x : D} (hN : 0 < N) (h : GRows N rs) (hl : ∀ l ∈ ls, 0 ≤ l ∧ l < 4) : wp (callF (tab rows) (k + 1) 173 [.tup [tupII rs, x], tupI ls]) n Q ↔ Q (.int (gAfter rs ls 0)) n := by
  refine wp_eq (wp_out ?_)
  rw [wp_def tab_173 rfl]
  simp [d_173, b_173, n_173, tupII, tupI]
  refine wp_for (I := fun i ρ n' => n' = n ∧ ∃ (s : Int) (x3 : Sl), ρ = [.val (.tup [tupII rs, x]), .val (tupI ls), .val (.int s), x3] ∧ 0 ≤ s ∧ s < N ∧ gAfter rs (ls.drop i) s = gAfter rs ls 0) ⟨rfl, 0, _, rfl, by omega, by omega, rfl⟩ ?_ ?_
  · rintro i d ρ n' hd ⟨rfl, s, x3, rfl, s0, s1, hg⟩
    rw [List.getElem?_map, Option.map_eq_some_iff] at hd
    obtain ⟨l, hd, rfl⟩ := hd
    have hm := hl l (List.mem_of_getElem? hd)
    obtain ⟨r, t, e1, e2, e3, t0, t1⟩ := g_step h s0 s1 hm.1 hm.2
    simp [tupII, e1]
    simp [tupI, e2]
    refine ⟨t0, t1, ?_⟩
    have hi : i < ls.length := (List.getElem?_eq_some_iff.mp hd).1
    have hv : ls[i] = l := (List.getElem?_eq_some_iff.mp hd).2
    rw [List.drop_eq_getElem_cons hi, hv] at hg
    rw [← hg, e3]
    rfl
  · rintro ρ n' ⟨rfl, s, x3, rfl, s0, s1, hg⟩
    simp [gAfter] at hg
    simp [hg]
end

section
variable {rows : List Int} {k n : Nat} {Q : D → Nat → Prop} {d : D}
/-- barred_after -/
theorem f174 {N : Nat} {rs bs : List (List Int)} {ls : List Int} {b : List Int} (hN : 0 < N) (h : GRows N rs) (hl : ∀ l ∈ ls, 0 ≤ l ∧ l < 4) (hb : atI (bs.map tupI) (gAfter rs ls 0) = some (tupI b)) : wp (callF (tab rows) (k + 2) 174 [.tup [tupII rs, tupII bs], tupI ls]) n Q ↔ Q (tupI b) n := by
  refine wp_eq (wp_out ?_)
  rw [wp_def tab_174 rfl]
  simp [d_174, b_174, n_174, f173 (k := k) hN h hl]
  simp [tupII, hb]
end

section
variable {rows : List Int} {k n : Nat} {Q : D → Nat → Prop} {d : D}
/-- _law_draw -/
theorem f3 {m : Int} : wp (callF (tab rows) (k + 1) 3 [.pool, .int m]) n Q ↔ (0 < m ∧ 0 < rows.length ∧ rows.length < 1073741824 ∧ n < 1152921504606846976) ∧ Q (.int (drawI rows n m)) (n + 1) := by
  rw [wp_prim tab_3, wp_drawC]
/-- how many draws may have been made -/
def LIM : Nat := 1152921504606846976
structure Rw (rows : List Int) : Prop where
  a : 0 < rows.length
  b : rows.length < 1073741824
/-- a draw, whatever comes -/
theorem wp_draw3 {m : Int} (R : Rw rows) (hm : 0 < m) (hn : n < LIM) (h : ∀ i, 0 ≤ i → i < m → Q (.int i) (n + 1)) : wp (callF (tab rows) (k + 1) 3 [.pool, .int m]) n Q :=
  f3.mpr ⟨⟨hm, R.a, R.b, hn⟩, h _ (drawI_bd hm).1 (drawI_bd hm).2⟩
end

section
variable {rows : List Int} {k n : Nat} {Q : D → Nat → Prop} {d : D}
/-- _law_some: some of the numbers below many, ascending -/
theorem f78 {m : Nat} {lean : Int} (R : Rw rows) (hl : 0 < lean) (hm : m ≤ 1000) (hn : n + m < LIM) (h : ∀ l : List Nat, l.Sublist (List.range m) → Q (tupI (l.map fun (i : Nat) => (i : Int))) (n + m)) : wp (callF (tab rows) (k + 2) 78 [.pool, .int m, .int lean]) n Q := by
  rw [wp_def tab_78 rfl]
  simp [d_78, b_78, n_78, -Bool.exists_bool]
  rw [range1_eq (by omega)]
  simp
  refine ⟨by omega, wp_lcGo (I := fun i acc n' => n' = n + i ∧ ∃ l : List Nat, l.Sublist (List.range i) ∧ acc = l.map fun (i : Nat) => D.int (i : Int)) ⟨rfl, [], by simp, rfl⟩ ?_ ?_⟩
  · rintro i d acc n' hd ⟨rfl, l, hs, rfl⟩
    obtain ⟨hi, rfl⟩ := range_get.mp hd
    simp [-Bool.exists_bool]
    refine wp_draw3 R hl (by unfold LIM at hn ⊢; omega) fun j h0 h1 => ?_
    simp [-Bool.exists_bool]
    have hr : List.range (i + 1) = List.range i ++ [i] := List.range_succ
    split
    · refine ⟨by omega, l ++ [i], ?_, by simp⟩
      rw [hr]
      exact hs.append (List.Sublist.refl _)
    · refine ⟨by omega, l, ?_, rfl⟩
      rw [hr]
      exact hs.trans (List.sublist_append_left _ _)
  · rintro rs n' ⟨rfl, l, hs, rfl⟩
    simp at hs ⊢
    have := h l (by simpa using hs)
    rw [tupI, List.map_map] at this
    exact this
end

section
variable {rows : List Int} {k n : Nat} {Q : D → Nat → Prop} {d : D}
/-- _law_row: at most `most` numbers below dd -/
theorem f34 {dd most : Nat} (R : Rw rows) (hd : 0 < dd) (hm : most ≤ 100) (hn : n + 110 < LIM) (h : ∀ is n', is.length ≤ most → (∀ i ∈ is, 0 ≤ i ∧ i < (dd : Int)) → n' ≤ n + 1 + most → Q (tupI is) n') : wp (callF (tab rows) (k + 2) 34 [.pool, .int dd, .int most]) n Q := by
  rw [wp_def tab_34 rfl]
  simp [d_34, b_34, n_34]
  refine wp_draw3 R (by omega) (by omega) fun v v0 v1 => ?_
  obtain ⟨w, rfl⟩ : ∃ w : Nat, v = w := ⟨v.toNat, by omega⟩
  simp
  rw [range1_eq (by omega)]
  simp
  refine wp_for (I := fun i ρ n' => n' = n + 1 + i ∧ ∃ (is : List Int) (x4 : Sl), ρ = [.val .pool, .val (.int dd), .val (.int most), .val (tupI is), x4] ∧ is.length = i ∧ ∀ x ∈ is, 0 ≤ x ∧ x < (dd : Int)) ⟨rfl, [], _, rfl, rfl, by simp⟩ ?_ ?_
  · rintro i d ρ n' hd2 ⟨rfl, is, x4, rfl, hl, hb⟩
    obtain ⟨hi, rfl⟩ := range_get.mp hd2
    simp
    refine wp_draw3 R (by omega) (by omega) fun u u0 u1 => ?_
    have hlr : is.length + 1 ≤ 16777216 := by omega
    simp [tupI, hlr]
    refine ⟨by omega, is ++ [u], by simp, by simp [hl], fun x hx => ?_⟩
    rcases List.mem_append.mp hx with hx | hx
    · exact hb x hx
    · simp at hx; subst hx; exact ⟨u0, u1⟩
  · rintro ρ n' ⟨rfl, is, x4, rfl, hl, hb⟩
    simp at hl
    simp
    exact h is _ (by omega) hb (by omega)
end

section
variable {rows : List Int} {k n : Nat} {Q : D → Nat → Prop} {d : D}
/-- _law_looks -/
theorem f126 {most : Nat} (R : Rw rows) (hm : most ≤ 100) (hn : n + 110 < LIM) (h : ∀ is n', is.length ≤ most → (∀ i ∈ is, 0 ≤ i ∧ i < (4 : Int)) → n' ≤ n + 1 + most → Q (tupI is) n') : wp (callF (tab rows) (k + 3) 126 [.pool, .int most]) n Q := by
  rw [wp_def tab_126 rfl]
  simp [d_126, b_126, n_126]
  refine f34 (k := k) (dd := 4) R (by decide) hm hn fun is n' h1 h2 h3 => ?_
  exact h is n' h1 h2 h3
end

section
variable {rows : List Int} {k n : Nat} {Q : D → Nat → Prop} {d : D}
/-- bars of a guard -/
structure GBars (n : Nat) (bs : List (List Int)) : Prop where
  len : bs.length = n
  sh : ∀ b ∈ bs, b.length ≤ 4
  bd : ∀ b ∈ bs, ∀ i ∈ b, 0 ≤ i ∧ i ≤ 4
/-- _law_guard -/
theorem f175 {dd most : Nat} (R : Rw rows) (hd : dd ≤ 4) (hm : 1 ≤ most ∧ most ≤ 6) (hn : n + 100 < LIM) (h : ∀ (N : Nat) rs bs n', 1 ≤ N → N ≤ most → GRows N rs → GBars N bs → n' ≤ n + 60 → Q (.tup [tupII rs, tupII bs]) n') : wp (callF (tab rows) (k + 3) 175 [.pool, .int dd, .int most]) n Q := by
  rw [wp_def tab_175 rfl]
  simp [d_175, b_175, n_175]
  refine wp_draw3 R (by omega) (by omega) fun v v0 v1 => ?_
  obtain ⟨N, hN1, hNm, hN⟩ : ∃ N : Nat, 1 ≤ N ∧ N ≤ most ∧ 1 + v = N := ⟨(1 + v).toNat, by omega, by omega, by omega⟩
  simp
  rw [hN, range1_eq (by omega)]
  simp
  refine wp_for (I := fun i ρ n' => n' ≤ n + 1 + 8 * i ∧ ∃ (rs bs : List (List Int)) (x6 x7 x8 : Sl), ρ = [.val .pool, .val (.int dd), .val (.int most), .val (.int N), .val (tupII rs), .val (tupII bs), x6, x7, x8] ∧ rs.length = i ∧ bs.length = i ∧ (∀ r ∈ rs, r.length = 4) ∧ (∀ r ∈ rs, ∀ x ∈ r, 0 ≤ x ∧ x < (N : Int)) ∧ (∀ b ∈ bs, b.length ≤ 4) ∧ (∀ b ∈ bs, ∀ x ∈ b, 0 ≤ x ∧ x ≤ 4)) ⟨by omega, [], [], _, _, _, rfl, rfl, rfl, by simp, by simp, by simp, by simp⟩ ?_ ?_
  · rintro i d ρ n' hd2 ⟨hn', rs, bs, x6, x7, x8, rfl, hl1, hl2, q1, q2, q3, q4⟩
    obtain ⟨hi, rfl⟩ := range_get.mp hd2
    simp
    rw [range1_eq (by decide)]
    simp
    refine wp_for (I := fun j ρ n2 => n2 ≤ n' + j ∧ ∃ (r : List Int) (x8 : Sl), ρ = [.val .pool, .val (.int dd), .val (.int most), .val (.int N), .val (tupII rs), .val (tupII bs), .val (.int i), .val (tupI r), x8] ∧ r.length = j ∧ ∀ x ∈ r, 0 ≤ x ∧ x < (N : Int)) ⟨by omega, [], _, rfl, rfl, by simp⟩ ?_ ?_
    · rintro j d ρ n2 hd3 ⟨hn2, r, x8, rfl, hl, hb⟩
      obtain ⟨hj, rfl⟩ := range_get.mp hd3
      simp
      refine wp_draw3 R (by omega) (by omega) fun u u0 u1 => ?_
      have hlr : r.length + 1 ≤ 16777216 := by omega
      simp [tupI, hlr]
      refine ⟨by omega, r ++ [u], by simp, by simp [hl], fun x hx => ?_⟩
      rcases List.mem_append.mp hx with hx | hx
      · exact hb x hx
      · simp at hx; subst hx; exact ⟨u0, u1⟩
    · rintro ρ n2 ⟨hn2, r, x8, rfl, hl, hb⟩
      simp at hl hn2
      have hls : rs.length + 1 ≤ 16777216 := by omega
      have hls2 : bs.length + 1 ≤ 16777216 := by omega
      simp [tupII, hls]
      refine f78 (k := k) R (by decide) (by omega) (by omega) fun l hs => ?_
      have hll := hs.length_le
      simp at hll
      simp [hls2]
      refine ⟨by omega, rs ++ [r], bs ++ [l.map fun (i : Nat) => (i : Int)], ⟨by simp, by simp⟩, by simp [hl1], by simp [hl2], ?_, ?_, ?_, ?_⟩
      · intro e he
        rcases List.mem_append.mp he with he | he
        · exact q1 e he
        · simp at he; subst he; exact hl
      · intro e he
        rcases List.mem_append.mp he with he | he
        · exact q2 e he
        · simp at he; subst he; exact hb
      · intro e he
        rcases List.mem_append.mp he with he | he
        · exact q3 e he
        · simp at he; subst he; simp; omega
      · intro e he
        rcases List.mem_append.mp he with he | he
        · exact q4 e he
        · simp at he; subst he
          intro x hx
          obtain ⟨y, hy, rfl⟩ := List.mem_map.mp hx
          have := List.mem_range.mp (hs.subset hy)
          omega
  · rintro ρ n' ⟨hn', rs, bs, x6, x7, x8, rfl, hl1, hl2, q1, q2, q3, q4⟩
    simp at hl1 hl2 hn'
    simp
    exact h N rs bs n' hN1 hNm ⟨hl1, q1, q2⟩ ⟨hl2, q3, q4⟩ (by omega)
end

section
variable {rows : List Int} {k n : Nat} {Q : D → Nat → Prop} {d : D}
def kindD : D → Int
  | .bool _ => 1
  | .int _ => 2
  | .str _ => 3
  | .tup _ => 4
  | .lst _ => 5
  | .none => 6
  | _ => 0
/-- _law_kind -/
theorem f16 (hd : d.data = true) : wp (callF (tab rows) (k + 1) 16 [d]) n Q ↔ Q (.int (kindD d)) n := by
  refine wp_eq (wp_out ?_)
  rw [wp_def tab_16 rfl]
  cases d <;> simp_all [d_16, b_16, n_16, kindD, D.data]
end

section
variable {rows : List Int} {k n : Nat} {Q : D → Nat → Prop} {d : D}
/-- nested tuples, lists of ints, truth values, None -/
def Pl : Nat → D → Prop
  | _, .none => True
  | _, .bool _ => True
  | _, .int _ => True
  | e + 1, .tup xs => xs.length ≤ 16777216 ∧ ∀ x ∈ xs, Pl e x
  | e + 1, .lst xs => xs.length ≤ 16777216 ∧ ∀ x ∈ xs, Pl e x
  | _, _ => False
@[simp] theorem pl_none {e : Nat} : Pl e .none = True := by cases e <;> rfl
@[simp] theorem pl_bool {e : Nat} {b : Bool} : Pl e (.bool b) = True := by cases e <;> rfl
@[simp] theorem pl_int {e : Nat} {i : Int} : Pl e (.int i) = True := by cases e <;> rfl
@[simp] theorem pl_tup {e : Nat} {xs : List D} : Pl (e + 1) (.tup xs) = (xs.length ≤ 16777216 ∧ ∀ x ∈ xs, Pl e x) := rfl
@[simp] theorem pl_lst {e : Nat} {xs : List D} : Pl (e + 1) (.lst xs) = (xs.length ≤ 16777216 ∧ ∀ x ∈ xs, Pl e x) := rfl
theorem Pl.data : ∀ {e : Nat} {d : D}, Pl e d → d.data = true
  | e, .none, _ => rfl
  | e, .bool _, _ => rfl
  | e, .int _, _ => rfl
  | e, .str _, h => by cases e <;> exact h.elim
  | 0, .tup _, h => h.elim
  | 0, .lst _, h => h.elim
  | e + 1, .tup xs, h => datas_of fun x hx => Pl.data (h.2 x hx)
  | e + 1, .lst xs, h => datas_of fun x hx => Pl.data (h.2 x hx)
  | e, .pool, h => by cases e <;> exact h.elim
  | e, .scr _, h => by cases e <;> exact h.elim
@[simp] theorem eq_self_bool {b : Bool} : cmpD .eq (.bool b) (.bool b) = some true := by
  simp only [cmpD, eqD_of okD_bool okD_bool]
  cases b <;> rfl
@[simp] theorem eq_self_none : cmpD .eq .none .none = some true := by
  simp only [cmpD, eqD_of okD_none okD_none]
  rfl
/-- _law_equal of equals -/
theorem f35 : ∀ (e : Nat) {k n : Nat} {d : D} {Q : D → Nat → Prop}, Pl e d → (wp (callF (tab rows) (k + e + 2) 35 [d, d]) n Q ↔ Q (.bool true) n) := by
  intro e
  induction e with
  | zero =>
    intro k n d Q h
    refine wp_eq (wp_out ?_)
    rw [wp_def tab_35 rfl]
    cases d with
    | none => simp [d_35, b_35, n_35, f16 (d := .none) rfl, kindD]
    | bool b => simp [d_35, b_35, n_35, f16 (d := .bool b) rfl, kindD]
    | int i => simp [d_35, b_35, n_35, f16 (d := .int i) rfl, kindD]
    | _ => exact h.elim
  | succ e ih =>
    intro k n d Q h
    refine wp_eq (wp_out ?_)
    rw [wp_def tab_35 rfl]
    have hd := h.data
    cases d with
    | none => simp [d_35, b_35, n_35, f16 (d := .none) rfl, kindD]
    | bool b => simp [d_35, b_35, n_35, f16 (d := .bool b) rfl, kindD]
    | int i => simp [d_35, b_35, n_35, f16 (d := .int i) rfl, kindD]
    | tup xs =>
      simp [d_35, b_35, n_35, f16 hd, kindD]
      rw [range1_eq (by have := h.1; omega)]
      simp
      refine wp_for_all_range (fun _ => true) (R := fun ρ => ∃ x2, ρ = [.val (.tup xs), .val (.tup xs), x2]) (.bool false) ⟨_, rfl⟩ ?_ ?_ ?_
      · rintro i ρ hi ⟨x2, rfl⟩
        have hm : Pl e xs[i] := h.2 _ (List.getElem_mem hi)
        have hk : k + (e + 1) + 1 = k + e + 2 := by omega
        simp [atI_ok hi, hk, ih hm]
      · intro _ ρ ⟨x2, hρ⟩
        simp
      · intro hf
        simp at hf
    | lst xs =>
      simp [d_35, b_35, n_35, f16 hd, kindD]
      rw [range1_eq (by have := h.1; omega)]
      simp
      refine wp_for_all_range (fun _ => true) (R := fun ρ => ∃ x2, ρ = [.val (.lst xs), .val (.lst xs), x2]) (.bool false) ⟨_, rfl⟩ ?_ ?_ ?_
      · rintro i ρ hi ⟨x2, rfl⟩
        have hm : Pl e xs[i] := h.2 _ (List.getElem_mem hi)
        have hk : k + (e + 1) + 1 = k + e + 2 := by omega
        simp [atI_ok hi, hk, ih hm]
      · intro _ ρ ⟨x2, hρ⟩
        simp
      · intro hf
        simp at hf
    | _ => exact h.elim
end

section
variable {rows : List Int} {k n : Nat} {Q : D → Nat → Prop} {d : D}
/-- _law_is -/
theorem f17 {a b : Bool} : wp (callF (tab rows) (k + 1) 17 [.bool a, .bool b]) n Q ↔ Q (.bool (a == b)) n := by
  refine wp_eq (wp_out ?_)
  rw [wp_def tab_17 rfl]
  cases a <;> cases b <;> simp [d_17, b_17, n_17]
end

section
variable {rows : List Int} {k n : Nat} {Q : D → Nat → Prop} {d : D}
/-- _law_int -/
theorem f18 {lo hi : Int} (hd : d.data = true) : wp (callF (tab rows) (k + 2) 18 [d, .int lo, .int hi]) n Q ↔ Q (.bool (numIn d lo hi)) n := by
  refine wp_eq (wp_out ?_)
  rw [wp_def tab_18 rfl]
  simp [d_18, b_18, n_18, f16 hd, -Bool.exists_bool]
  cases d <;> simp [kindD, numIn, -Bool.exists_bool]
  rename_i i
  by_cases h : lo ≤ i <;> simp [h, -Bool.exists_bool]
end

section
variable {rows : List Int} {k n : Nat} {Q : D → Nat → Prop} {d : D}
/-- _law_ints -/
theorem f19 {lo hi : Int} (hd : d.data = true) : wp (callF (tab rows) (k + 3) 19 [d, .int lo, .int hi]) n Q ↔ Q (.bool (tupAll d fun x => numIn x lo hi)) n := by
  refine wp_eq (wp_out ?_)
  rw [wp_def tab_19 rfl]
  cases d with
  | tup xs =>
    have hx := fun x hx => datas_mem (x := x) hd hx
    simp [d_19, b_19, n_19, -Bool.exists_bool]
    refine wp_for_all (p := fun x => numIn x lo hi) (R := fun ρ => ∃ x3, ρ = [.val (.tup xs), .val (.int lo), .val (.int hi), x3]) (.bool false) ⟨_, rfl⟩ ?_ ?_ ?_
    · rintro x ρ hx' ⟨x3, rfl⟩
      simp [f18 (hx x hx'), -Bool.exists_bool]
    · intro h ρ hρ
      simp [tupAll, h, -List.all_eq_true]
    · intro h
      simp [tupAll, h, -List.all_eq_false]
  | _ => simp_all [d_19, b_19, n_19, tupAll, D.data]
end

section
variable {rows : List Int} {k n : Nat} {Q : D → Nat → Prop} {d : D}
/-- _law_up -/
theorem f20 {xs : List D} (h : ∀ x ∈ xs, isIntD x = true) (hl : xs.length ≤ 16777216) : wp (callF (tab rows) (k + 1) 20 [.tup xs]) n Q ↔ Q (.bool (upD xs)) n := by
  refine wp_eq (wp_out ?_)
  rw [wp_def tab_20 rfl]
  simp [d_20, b_20, n_20, -Bool.exists_bool]
  rw [range2_eq (by omega)]
  simp
  refine wp_for_all_range (fun i => decide (intOf (xs.getD i .none) < intOf (xs.getD (i + 1) .none))) (R := fun ρ => ∃ x1, ρ = [.val (.tup xs), x1]) (.bool false) ⟨_, rfl⟩ ?_ ?_ ?_
  · rintro i ρ hi ⟨x1, rfl⟩
    have h1 : i < xs.length := by omega
    have h2 : i + 1 < xs.length := by omega
    have e1 : (1 + (i : Int)) - 1 = (i : Int) := by omega
    have e2 : 1 + (i : Int) = ((i + 1 : Nat) : Int) := by omega
    simp [e1, atI_int h h1, -Bool.exists_bool]
    rw [e2, atI_int h h2]
    simp [-Bool.exists_bool]
  · intro ha ρ hρ
    simp [upD, -List.all_eq_true]
    exact ha
  · intro ha
    simp [upD, -List.all_eq_false]
    exact ha
end

section
variable {rows : List Int} {k n : Nat} {Q : D → Nat → Prop} {d : D}
/-- _law_set -/
theorem f21 {lo hi : Int} (hd : d.data = true) (hl : ∀ xs, d = .tup xs → xs.length ≤ 16777216) : wp (callF (tab rows) (k + 4) 21 [d, .int lo, .int hi]) n Q ↔ Q (.bool (isNums d lo hi)) n := by
  refine wp_eq (wp_out ?_)
  rw [wp_def tab_21 rfl]
  simp [d_21, b_21, n_21, f19 hd, -Bool.exists_bool, -List.all_eq_true]
  cases d with
  | tup xs =>
    split
    · rename_i h
      have h : (xs.all fun x => numIn x lo hi) = true := h
      rw [f20 (fun x hx => numIn_int (List.all_eq_true.mp h x hx)) (hl _ rfl)]
      simp only [isNums, h, Bool.true_and, and_self]
    · rename_i h
      have h : ¬ (xs.all fun x => numIn x lo hi) = true := h
      simp only [isNums, Bool.eq_false_iff.mpr h, Bool.false_and]
  | _ => simp [tupAll, isNums]
end

section
variable {rows : List Int} {k n : Nat} {Q : D → Nat → Prop} {d : D}
theorem natRepr_len (n : Nat) : (Nat.repr n).toList.length ≤ n + 1 := by
  show (String.ofList (Nat.toDigits 10 n)).toList.length ≤ n + 1
  rw [String.toList_ofList]
  have := digits_len 10 (n + 1) n []
  simp at this
  exact this
theorem strInt_len {i : Int} : (Str.ofString (toString i)).length ≤ i.natAbs + 2 := by
  rw [Str.ofString_eq_toList]
  show (((toString i).toList.map Char.toNat).toArray).size ≤ _
  rw [List.size_toArray, List.length_map]
  cases i with
  | ofNat m =>
    have := natRepr_len m
    show (Nat.repr m).toList.length ≤ m + 2
    omega
  | negSucc m =>
    have := natRepr_len (m + 1)
    show (("-" ++ Nat.repr (m + 1)) : String).toList.length ≤ (m + 1) + 2
    rw [String.toList_append, List.length_append]
    have e : ("-" : String).toList.length = 1 := by decide
    omega
theorem up_len3 {x : Str} : (Txt.upper x).length ≤ 3 * x.length := PyProof.Rows.len_upper x
theorem lx : (Str.ofString "x").length = 1 := by decide +kernel
theorem l0 : (Str.ofString "").length = 0 := by decide +kernel
theorem str_app {x y : Str} : (x ++ y).length = x.length + y.length := by
  show (x.cps ++ y.cps).size = x.cps.size + y.cps.size
  exact Array.size_append
theorem strD_ok {i : Int} (h : i.natAbs ≤ 1000) : Bi.op .str [.int i] = some (.str (Str.ofString (toString i))) := by
  have : i.natAbs.log2 < 1920 := by
    have := Nat.log2_le_self i.natAbs
    omega
  simp only [Bi.op, strD]
  rw [if_pos this]
theorem upperD_ok {x : Str} (h : x.length ≤ 5592405) : upperD (.str x) = some (.str (Txt.upper x)) := by
  unfold upperD
  simp only
  rw [if_pos h]
/-- _law_bent: small data stay small -/
theorem f23 (R : Rw rows) {t : Nat} (ht : t ≤ 1000) : ∀ (e : Nat) {k n : Nat} {d : D} {Q : D → Nat → Prop}, Sm t e d → n + 5 * (e + 1) < LIM → (∀ r n', Sm (3 * t + 16) (e + 1) r → n' ≤ n + 5 * (e + 1) → Q r n') → wp (callF (tab rows) (k + e + 2) 23 [.pool, d]) n Q := by
  intro e
  have leaf : ∀ {e k n : Nat} {d : D} {Q : D → Nat → Prop}, isTupD d = false → Sm t e d → n + 5 * (e + 1) < LIM → (∀ r n', Sm (3 * t + 16) (e + 1) r → n' ≤ n + 5 * (e + 1) → Q r n') → wp (callF (tab rows) (k + e + 2) 23 [.pool, d]) n Q := by
    intro e k n d Q hnt hs hn h
    rw [wp_def tab_23 rfl]
    have hn0 : n < LIM := by omega
    cases d with
    | tup _ => cases hnt
    | pool => simp at hs
    | scr _ => simp at hs
    | str x =>
      simp at hs
      have h1 := @up_len3 x
      have h2 : x.length + 1 ≤ 16777216 := by omega
      have h3 : x.length ≤ 5592405 := by omega
      simp [d_23, b_23, n_23, lx, h2, upperD_ok h3]
      refine wp_draw3 R (by decide) hn0 fun j j0 j1 => ?_
      simp
      refine draw_ix j0 (by simpa using j1) fun r hr => ?_
      refine h r _ ?_ (by omega)
      simp at hr
      rcases hr with rfl | rfl | rfl | rfl | rfl <;> simp [str_app, lx, l0] <;> omega
    | int i =>
      simp at hs
      have h1 : i.natAbs ≤ 1000 := by omega
      have h2 : (Str.ofString i.repr).length ≤ i.natAbs + 2 := strInt_len
      simp [d_23, b_23, n_23, f16 (d := .int i) rfl, kindD, strD_ok h1]
      refine wp_draw3 R (by decide) hn0 fun j j0 j1 => ?_
      simp
      refine draw_ix j0 (by simpa using j1) fun r hr => ?_
      refine h r _ ?_ (by omega)
      simp at hr
      rcases hr with rfl | rfl | rfl | rfl | rfl | rfl | rfl | rfl | rfl | rfl <;> simp <;> omega
    | none =>
      simp [d_23, b_23, n_23, f16 (d := .none) rfl, kindD]
      refine wp_draw3 R (by decide) hn0 fun j j0 j1 => ?_
      simp
      refine draw_ix j0 (by simpa using j1) fun r hr => ?_
      refine h r _ ?_ (by omega)
      simp at hr
      rcases hr with rfl | rfl | rfl | rfl <;> simp [lx] <;> omega
    | bool b =>
      simp [d_23, b_23, n_23, f16 (d := .bool b) rfl, kindD]
      refine wp_draw3 R (by decide) hn0 fun j j0 j1 => ?_
      simp
      refine draw_ix j0 (by simpa using j1) fun r hr => ?_
      refine h r _ ?_ (by omega)
      simp at hr
      rcases hr with rfl | rfl | rfl | rfl <;> simp [lx] <;> omega
    | lst xs =>
      simp [d_23, b_23, n_23, f16 hs.data, kindD]
      refine wp_draw3 R (by decide) hn0 fun j j0 j1 => ?_
      simp
      refine draw_ix j0 (by simpa using j1) fun r hr => ?_
      refine h r _ ?_ (by omega)
      simp at hr
      rcases hr with rfl | rfl | rfl | rfl <;> simp [lx] <;> omega
  induction e with
  | zero =>
    intro k n d Q hs hn h
    refine leaf (e := 0) (k := k) (n := n) (d := d) (Q := Q) ?_ hs hn h
    cases d with
    | tup _ => rw [sm_tup0] at hs; exact hs.elim
    | _ => rfl
  | succ e ih =>
    intro k n d Q hs hn h
    cases d with
    | tup xs =>
      obtain ⟨hl, hx⟩ := hs
      rw [wp_def tab_23 rfl]
      have hx' : ∀ x ∈ xs, Sm (3 * t + 16) (e + 1) x := fun x hm => (hx x hm).mono (by omega) (by omega)
      have fin : ∀ (ys : List D) (n' : Nat), ys.length ≤ 3 * t + 16 → (∀ y ∈ ys, Sm (3 * t + 16) (e + 1) y) → n' ≤ n + 5 * (e + 1 + 1) → Q (.tup ys) n' := fun ys n' h1 h2 h3 => h _ _ ⟨h1, h2⟩ h3
      have lim : ∀ j, j ≤ 9 → n + j < LIM := fun j hj => by omega
      simp [d_23, b_23, n_23]
      refine wp_draw3 R (by decide) (lim 0 (by omega)) fun way w0 w1 => ?_
      simp
      have hlen : xs.length ≤ 1000 := by omega
      have cl : ∀ lo hi, (cutD xs lo hi).length ≤ t := fun lo hi => Nat.le_trans cutD_le hl
      have cm : ∀ lo hi, ∀ y ∈ cutD xs lo hi, Sm (3 * t + 16) (e + 1) y := fun lo hi y hy => hx' y (mem_cutD hy)
      by_cases hxe : xs = []
      · rw [if_pos hxe]
        refine wp_draw3 R (by decide) (lim 1 (by omega)) fun j j0 j1 => ?_
        simp
        refine draw_ix j0 (by simpa using j1) fun r hr => ?_
        simp
        refine ⟨by omega, fin _ _ (by simp; omega) (fun y hy => ?_) (by omega)⟩
        rcases List.mem_append.mp hy with hy | hy
        · exact hx' y hy
        · simp at hy
          subst hy
          simp at hr
          rcases hr with rfl | rfl | rfl | rfl <;> simp
      rw [if_neg hxe]
      by_cases hw0 : way = 0
      · rw [if_pos hw0]
        refine wp_draw3 R (by decide) (lim 1 (by omega)) fun j j0 j1 => ?_
        simp
        refine draw_ix j0 (by simpa using j1) fun r hr => ?_
        simp
        refine ⟨by omega, fin _ _ (by simp; omega) (fun y hy => ?_) (by omega)⟩
        rcases List.mem_append.mp hy with hy | hy
        · exact hx' y hy
        · simp at hy
          subst hy
          simp at hr
          rcases hr with rfl | rfl | rfl | rfl <;> simp
      rw [if_neg hw0]
      have hpos : 0 < xs.length := List.length_pos_iff.mpr hxe
      refine wp_draw3 R (by omega) (lim 1 (by omega)) fun at' a0 a1 => ?_
      have c2 : ∀ lo hi lo' hi', (cutD xs lo hi).length + (cutD xs lo' hi').length ≤ 16777216 := fun lo hi lo' hi' => by
        have := cl lo hi; have := cl lo' hi'; omega
      obtain ⟨v, ev, mv⟩ := atI_mem a0 a1
      by_cases hw1 : way = 1
      · simp [hw1]
        refine ⟨c2 _ _ _ _, fin _ _ (by simp; have := cl none (some at'); have := cl (some (at' + 1)) none; omega) (fun y hy => ?_) (by omega)⟩
        rcases List.mem_append.mp hy with hy | hy
        · exact cm _ _ y hy
        · exact cm _ _ y hy
      by_cases hw2 : way = 2
      · subst hw2
        simp
        refine wp_draw3 R (by decide) (lim 2 (by omega)) fun j j0 j1 => ?_
        simp
        split
        · exact h _ _ ⟨by omega, hx'⟩ (by omega)
        · simp [ev]
          have hk : k + (e + 1) + 1 = k + e + 2 := by omega
          rw [hk]
          refine ih (k := k) (hx v mv) (by omega) fun r n2 hr hn2 => ?_
          have := cl none (some at'); have := cl (some (at' + 1)) none
          simp
          refine ⟨by omega, by omega, fin _ _ (by simp; omega) (fun y hy => ?_) (by omega)⟩
          rcases List.mem_append.mp hy with hy | hy
          · exact cm _ _ y hy
          · rcases List.mem_cons.mp hy with rfl | hy
            · exact hr
            · exact cm _ _ y hy
      by_cases hw3 : way = 3
      · subst hw3
        simp [ev]
        have := cl none (some at'); have := cl (some at') none
        refine ⟨by omega, by omega, fin _ _ (by simp; omega) (fun y hy => ?_) (by omega)⟩
        rcases List.mem_append.mp hy with hy | hy
        · exact cm _ _ y hy
        · rcases List.mem_cons.mp hy with rfl | hy
          · exact hx' _ mv
          · exact cm _ _ y hy
      by_cases hw4 : way = 4
      · subst hw4
        by_cases hl1 : 1 < (xs.length : Int)
        · have ob := @fmod_bound (at' + 1) xs.length (by omega)
          simp [hl1, hxe]
          generalize (at' + 1).fmod (xs.length : Int) = o at *
          obtain ⟨vl, evl, ml⟩ := @atI_mem xs (if o < at' then o else at') (by split <;> omega) (by split <;> omega)
          obtain ⟨vh, evh, mh⟩ := @atI_mem xs (if at' < o then o else at') (by split <;> omega) (by split <;> omega)
          simp [evl, evh]
          generalize (if o < at' then o else at') = lo at *
          generalize (if at' < o then o else at') = hi at *
          have := cl none (some lo); have := cl (some (lo + 1)) (some hi); have := cl (some (hi + 1)) none
          refine ⟨by omega, by omega, by omega, by omega, fin _ _ (by simp; omega) (fun y hy => ?_) (by omega)⟩
          simp only [List.mem_append, List.mem_cons] at hy
          rcases hy with hy | rfl | hy | rfl | hy
          · exact cm _ _ y hy
          · exact hx' _ mh
          · exact cm _ _ y hy
          · exact hx' _ ml
          · exact cm _ _ y hy
        · simp [hl1, ev]
          have hk : k + (e + 1) + 1 = k + e + 2 := by omega
          rw [hk]
          refine ih (k := k) (hx v mv) (by omega) fun r n2 hr hn2 => ?_
          have := cl none (some at'); have := cl (some (at' + 1)) none
          simp
          refine ⟨by omega, by omega, fin _ _ (by simp; omega) (fun y hy => ?_) (by omega)⟩
          rcases List.mem_append.mp hy with hy | hy
          · exact cm _ _ y hy
          · rcases List.mem_cons.mp hy with rfl | hy
            · exact hr
            · exact cm _ _ y hy
      simp [hw1, hw2, hw3, hw4, ev]
      have hk : k + (e + 1) + 1 = k + e + 2 := by omega
      rw [hk]
      refine ih (k := k) (hx v mv) (by omega) fun r n2 hr hn2 => ?_
      have := cl none (some at'); have := cl (some (at' + 1)) none
      simp
      refine ⟨by omega, by omega, fin _ _ (by simp; omega) (fun y hy => ?_) (by omega)⟩
      rcases List.mem_append.mp hy with hy | hy
      · exact cm _ _ y hy
      · rcases List.mem_cons.mp hy with rfl | hy
        · exact hr
        · exact cm _ _ y hy
    | none => exact leaf (e := e + 1) (k := k) rfl hs hn h
    | bool _ => exact leaf (e := e + 1) (k := k) rfl hs hn h
    | int _ => exact leaf (e := e + 1) (k := k) rfl hs hn h
    | str _ => exact leaf (e := e + 1) (k := k) rfl hs hn h
    | lst _ => exact leaf (e := e + 1) (k := k) rfl hs hn h
    | pool => simp at hs
    | scr _ => simp at hs
end

section
variable {rows : List Int} {k n : Nat} {Q : D → Nat → Prop} {d : D}
/-- _law_bends: small data -/
theorem f24 (R : Rw rows) {t e many c B : Nat} (ht : t ≤ 100) (hm : many ≤ 100) (hs : Sm t e d) (hc : 10 * e + 20 ≤ c) (hB : many * c ≤ B) (hn : n + B < LIM)
    (h : ∀ ds n', (∀ x ∈ ds, Sm (9 * t + 64) (e + 2) x) → ds.length ≤ many + 11 → n' ≤ n + B → Q (.lst ds) n') : wp (callF (tab rows) (k + e + 4) 24 [.pool, d, .int many]) n Q := by
  rw [wp_def tab_24 rfl]
  simp [d_24, b_24, n_24]
  rw [range1_eq (by omega)]
  simp
  have t1 : 3 * (3 * t + 16) + 16 ≤ 9 * t + 64 := by omega
  have t2 : 3 * t + 16 ≤ 9 * t + 64 := by omega
  have t3 : 3 * t + 16 ≤ 1000 := by omega
  have t4 : t ≤ 1000 := by omega
  have hs2 : Sm (9 * t + 64) (e + 2) d := hs.mono (by omega) (by omega)
  have small : ∀ ds : List D, ∀ i, i < many → ds.length = i + 1 → ds.length < 16777216 := fun ds i h1 h2 => by omega
  refine wp_for (I := fun i ρ n' => n' ≤ n + i * c ∧ ∃ (ds : List D) (x4 x5 : Sl), ρ = [.val .pool, .val d, .val (.int many), .own (.lst ds), x4, x5] ∧ ds.length = i + 1 ∧ ∀ x ∈ ds, Sm (9 * t + 64) (e + 2) x) ⟨by omega, [d], _, _, rfl, rfl, fun x hx => by simp at hx; subst hx; exact hs2⟩ ?_ ?_
  · rintro i d' ρ n' hd ⟨hn', ds, x4, x5, rfl, hlen, hds⟩
    obtain ⟨hi, rfl⟩ := range_get.mp hd
    have b1 : i * c + c = (i + 1) * c := (Nat.succ_mul _ _).symm
    have b2 : (i + 1) * c ≤ B := Nat.le_trans (Nat.mul_le_mul_right _ hi) hB
    have hds' := small ds i hi hlen
    rw [← b1] at b2
    have g1 : n' + 5 * (e + 1) < LIM := by clear h hs hs2 hds hd b1 hB; omega
    have g2 : ∀ n2, n2 ≤ n' + 5 * (e + 1) → n2 < LIM ∧ n2 + 1 ≤ n + (i * c + c) ∧ n2 + 1 + 5 * (e + 1 + 1) < LIM := by clear h hs hs2 hds hd b1 hB; omega
    have g3 : ∀ n2 n3, n2 ≤ n' + 5 * (e + 1) → n3 ≤ n2 + 1 + 5 * (e + 1 + 1) → n3 ≤ n + (i * c + c) := by clear h hs hs2 hds hd b1 hB; omega
    simp
    have hk : k + e + 3 = (k + 1) + e + 2 := by omega
    rw [hk]
    refine f23 (k := k + 1) R t4 e hs g1 fun r n2 hr hn2 => ?_
    simp
    obtain ⟨q1, q2, q3⟩ := g2 n2 hn2
    refine wp_draw3 R (by decide) q1 fun j j0 j1 => ?_
    simp
    split
    · have hk2 : k + 1 + e + 2 = k + (e + 1) + 2 := by omega
      rw [hk2]
      refine f23 (k := k) R t3 (e + 1) hr q3 fun r2 n3 hr2 hn3 => ?_
      simp [hds']
      refine ⟨by rw [← b1]; exact g3 n2 n3 hn2 hn3, hlen, fun x hx => ?_⟩
      rcases hx with hx | rfl
      · exact hds x hx
      · exact Sm.mono t1 (Nat.le_refl _) hr2
    · simp [hds']
      refine ⟨by rw [← b1]; exact q2, hlen, fun x hx => ?_⟩
      rcases hx with hx | rfl
      · exact hds x hx
      · exact Sm.mono t2 (Nat.le_succ _) hr
  · rintro ρ n' ⟨hn', ds, x4, x5, rfl, hlen, hds⟩
    simp at hlen hn'
    have : ds.length + 10 ≤ 16777216 := by omega
    simp [this]
    refine h _ _ (fun x hx => ?_) (by simp; omega) (Nat.le_trans hn' (Nat.add_le_add_left hB n))
    rcases List.mem_append.mp hx with hx | hx
    · exact hds x hx
    · simp at hx
      rcases hx with rfl | rfl | rfl | rfl | rfl | rfl | rfl | rfl | rfl | rfl
      all_goals first | exact hs2 | simp [lx, l0]
end

section
variable {rows : List Int} {k n : Nat} {Q : D → Nat → Prop} {d : D}
/-- _law_is_guard -/
theorem f176 {dd : Int} {t e : Nat} (ht : t ≤ 10000) (hs : Sm t e d) : wp (callF (tab rows) (k + 5) 176 [.int dd, d]) n Q ↔ Q (.bool (isGd dd d)) n := by
  refine wp_eq (wp_out ?_)
  rw [wp_def tab_176 rfl]
  simp [d_176, b_176, n_176]
  cases d with
  | pool => simp at hs
  | scr ns => simp at hs
  | tup xs =>
    cases e with
    | zero => exact hs.elim
    | succ e =>
    match xs, hs with
    | [], hs => simp [isGd]
    | [_], hs => simp [isGd]
    | _ :: _ :: _ :: _, hs => simp [isGd]; omega
    | [a, b], hs =>
      have ha : Sm t e a := hs.2 a (by simp)
      have hb : Sm t e b := hs.2 b (by simp)
      simp
      cases a with
      | pool => simp at ha
      | scr ns => simp at ha
      | tup rs =>
        cases e with
        | zero => exact ha.elim
        | succ e =>
        have hr : ∀ r ∈ rs, Sm t e r := ha.2
        have hl := ha.1
        cases b with
        | pool => simp at hb
        | scr ns => simp at hb
        | tup bs =>
          have hbl := hb.1
          have hbm : ∀ r ∈ bs, Sm t e r := hb.2
          simp
          by_cases h1 : 1 ≤ rs.length
          · by_cases h5 : rs.length ≤ 5000
            · by_cases he : bs.length = rs.length
              · have im : isGd dd (.tup [.tup rs, .tup bs]) = ((rs.all fun r => isTupN r 4 && tupAll r fun x => numIn x 0 ((rs.length : Int) - 1)) && (bs.all fun b => isNums b 0 (dd - 1))) := by
                  unfold isGd
                  simp only [h1, h5, he, decide_true, Bool.true_and]
                rw [im, if_neg (by omega), if_neg (by omega)]
                simp [he]
                refine wp_for_all (fun r => isTupN r 4 && tupAll r fun x => numIn x 0 ((rs.length : Int) - 1)) (R := fun ρ => ∃ x3, ρ = [.val (.int dd), .val (.tup [.tup rs, .tup bs]), .val (.int rs.length), x3, .un]) (.bool false) ⟨_, rfl⟩ ?_ ?_ ?_
                · rintro r ρ hr' ⟨x3, rfl⟩
                  simp [f19 (k := k + 1) (hr r hr').data]
                  by_cases q : (tupAll r fun x => numIn x 0 ((rs.length : Int) - 1)) = true
                  · obtain ⟨ys, rfl⟩ : ∃ ys, r = .tup ys := by cases r <;> first | exact ⟨_, rfl⟩ | cases q
                    simp [q, isTupN]
                  · simp [q]
                · rintro ha' ρ ⟨x3, rfl⟩
                  rw [ha']
                  simp
                  refine wp_for_all (fun r => isNums r 0 (dd - 1)) (R := fun ρ => ∃ x3 x4, ρ = [.val (.int dd), .val (.tup [.tup rs, .tup bs]), .val (.int rs.length), x3, x4]) (.bool false) ⟨_, _, rfl⟩ ?_ ?_ ?_
                  · rintro r ρ hr' ⟨x3, x4, rfl⟩
                    simp [f21 (k := k) (hbm r hr').data ((hbm r hr').len' ht)]
                  · rintro hb' ρ ⟨x3, x4, rfl⟩
                    rw [hb']
                    simp
                  · intro hb'
                    rw [hb']
                    simp
                · intro ha'
                  rw [ha']
                  simp
              · rw [if_neg (by omega), if_neg (by omega)]
                have he' : ¬ ((bs.length : Nat) : Int) = rs.length := by omega
                simp [isGd, he, he']
            · rw [if_neg (by omega), if_pos (by omega)]
              unfold isGd
              simp only [h5, decide_false, Bool.and_false, Bool.false_and]
          · rw [if_pos (by omega)]
            unfold isGd
            simp only [h1, decide_false, Bool.false_and]
        | _ => simp [isGd]
      | _ => simp [isGd]
  | _ => simp [isGd]
end

section
variable {rows : List Int} {k n : Nat} {Q : D → Nat → Prop} {d : D}
def barsIn (hs : List Int) (d : D) : Bool := match d with
  | .tup ys => ys.all fun y => decide (intOf y ∈ hs)
  | _ => false
theorem barsIn_tupI {hs b : List Int} : barsIn hs (tupI b) = b.all fun i => decide (i ∈ hs) := by
  simp only [barsIn, tupI, List.all_map]
  rfl
/-- _law_bars_only -/
theorem f177 {x : D} {bs : List (List Int)} {hs : List Int} (h : ∀ b ∈ bs, b.length ≤ 10000) : wp (callF (tab rows) (k + 1) 177 [.tup [x, tupII bs], tupI hs]) n Q ↔ Q (.bool (bs.all fun b => b.all fun i => decide (i ∈ hs))) n := by
  refine wp_eq (wp_out ?_)
  rw [wp_def tab_177 rfl]
  simp [d_177, b_177, n_177, tupII, -List.all_eq_true, -List.all_eq_false]
  have ea : (bs.map tupI).all (barsIn hs) = bs.all fun b => b.all fun i => decide (i ∈ hs) := by
    rw [List.all_map]
    congr 1
    funext b
    exact barsIn_tupI
  refine wp_for_all (barsIn hs) (R := fun ρ => ∃ x2 x3, ρ = [.val (.tup [x, .tup (bs.map tupI)]), .val (tupI hs), x2, x3]) (.bool false) ⟨_, _, rfl⟩ ?_ ?_ ?_
  · rintro d ρ hd ⟨x2, x3, rfl⟩
    obtain ⟨b, hb, rfl⟩ := List.mem_map.mp hd
    have := h b hb
    rw [barsIn_tupI]
    simp only [tupI]
    simp [-List.all_eq_true, -List.all_eq_false]
    refine ⟨by omega, wp_pick (fun v : Int => !decide (v ∈ hs)) D.int (fun v hv => ?_) ?_⟩
    · simp
    · simp
  · rintro ha ρ ⟨x2, x3, rfl⟩
    rw [ea] at ha
    rw [ha]
    simp
  · intro ha
    rw [ea] at ha
    rw [ha]
    simp
end

section
theorem law_proof : ∀ rows : List Int, 24 ≤ rows.length → rows.length ≤ 144 → wp (xSs (callF (tab rows) (196 + 2)) lawB (lawR lawN)) 0 fun o _ => o = .rt (.bool true) := by
  intro rows hr1 hr2
  have R : Rw rows := ⟨by omega, by omega⟩
  have lim : ∀ n, n ≤ 100000 → n < LIM := fun n h => Nat.lt_of_le_of_lt h (by decide)
  simp [lawB, lawR, lawN]
  refine wp_draw3 R (by decide) (lim _ (by omega)) fun j j0 j1 => ?_
  simp
  obtain ⟨dd, hd1, hd4, hdj⟩ : ∃ dd : Nat, 1 ≤ dd ∧ dd ≤ 4 ∧ 1 + j = dd := ⟨(1 + j).toNat, by omega, by omega, by omega⟩
  rw [hdj]
  refine f175 (k := 195) (most := 5) R hd4 (by decide) (lim _ (by omega)) fun N rs bs n1 hN1 hN5 hg hb hn1 => ?_
  simp
  have hsm : Sm 40 3 (.tup [tupII rs, tupII bs]) := by
    refine ⟨by simp, fun x hx => ?_⟩
    simp at hx
    rcases hx with rfl | rfl
    · refine ⟨by simp [hg.len]; omega, fun x hx => ?_⟩
      obtain ⟨r, hr, rfl⟩ := List.mem_map.mp hx
      exact rowSm (fun i hi => by have := hg.bd r hr i hi; omega) (by rw [hg.row r hr]; omega)
    · refine ⟨by simp [hb.len]; omega, fun x hx => ?_⟩
      obtain ⟨r, hr, rfl⟩ := List.mem_map.mp hx
      exact rowSm (fun i hi => by have := hb.bd r hr i hi; omega) (by have := hb.sh r hr; omega)
  refine f24 (k := 191) (e := 3) (t := 40) (many := 18) (c := 50) (B := 900) R (by decide) (by decide) hsm (by decide) (by decide) (lim _ (by omega)) fun ds n2 hds hdl hn2 => ?_
  have dl : ds.length + 5 ≤ 16777216 := by omega
  simp [dl]
  have two : ∀ x ∈ ds ++ [D.tup [D.tup [], D.tup []], D.tup [D.tup [D.tup [.int 0, .int 0, .int 0, .int 0]], D.tup []], D.tup [D.tup [D.tup [.int 0, .int 0, .int 0]], D.tup [D.tup []]], D.tup [D.tup [D.tup [.int 0, .int 0, .int 0, .int 1]], D.tup [D.tup []]], D.tup [D.tup [D.tup [.int 0, .int 0, .int 0, .int 0]], D.tup [D.tup [.int dd]]]], Sm 500 5 x := by
    intro x hx
    rcases List.mem_append.mp hx with hx | hx
    · exact (hds x hx).mono (by decide) (by decide)
    · simp only [List.mem_cons, List.not_mem_nil, or_false] at hx
      rcases hx with rfl | rfl | rfl | rfl | rfl <;> simp
      omega
  refine wp_for_all (fun _ => true) (R := fun ρ => ∃ x4, ρ = [.un, .val .pool, .val (.int dd), .val (.tup [tupII rs, tupII bs]), x4, .un, .un, .un, .un, .un]) (.bool false) ⟨_, rfl⟩ ?_ ?_ ?_
  · rintro x ρ hx ⟨x4, rfl⟩
    have q1 := two x hx
    simp [f169 (k := 193) (t := 500) (by decide) q1, f176 (k := 193) (t := 500) (by decide) q1, f17]
  case refine_3 =>
    intro hf
    simp at hf
  rintro - ρ ⟨x4, rfl⟩
  simp
  have m1 := mul_tup1 (x := .tup [.int 4999, .int 0, .int 0, .int 0]) (m := 5000) (by decide) (by decide)
  have m2 := mul_tup1 (x := .tup []) (m := 5000) (by decide) (by decide)
  rw [show ((5000 : Nat) : Int) = 5000 from rfl] at m1 m2
  obtain ⟨A, hA⟩ : ∃ A, A = List.replicate 5000 (D.tup [.int 4999, .int 0, .int 0, .int 0]) := ⟨_, rfl⟩
  obtain ⟨B, hB⟩ : ∃ B, B = List.replicate 5000 (D.tup []) := ⟨_, rfl⟩
  rw [← hA] at m1
  rw [← hB] at m2
  have lA : A.length = 5000 := by rw [hA, List.length_replicate]
  have lB : B.length = 5000 := by rw [hB, List.length_replicate]
  have g1 : isGd dd (.tup [.tup A, .tup B]) = true := by
    unfold isGd
    simp only [lA, lB]
    rw [hA, hB]
    simp [isTupN, tupAll, numIn, isNums, upD]
  have g2 : ∀ x y, isGd dd (.tup [.tup (A ++ [x]), .tup (B ++ [y])]) = false := fun x y => by
    unfold isGd
    simp [lA]
  have s1 : Sm 6000 3 (.tup [.tup A, .tup B]) := by
    refine ⟨by simp, fun x hx => ?_⟩
    simp at hx
    rcases hx with rfl | rfl
    · refine ⟨by omega, fun y hy => ?_⟩
      rw [hA] at hy
      rw [List.eq_of_mem_replicate hy]
      simp
    · refine ⟨by omega, fun y hy => ?_⟩
      rw [hB] at hy
      rw [List.eq_of_mem_replicate hy]
      simp
  simp [m1, m2]
  rw [f169 (k := 193) (t := 6000) (by decide) s1, g1]
  simp [f17]
  refine ⟨by omega, by omega, ?_⟩
  have s2 : Sm 6000 3 (.tup [.tup (A ++ [.tup [.int 0, .int 0, .int 0, .int 0]]), .tup (B ++ [.tup []])]) := by
    refine ⟨by simp, fun x hx => ?_⟩
    have s1' := s1.2
    simp only [List.mem_cons, List.not_mem_nil, or_false] at hx
    rcases hx with rfl | rfl
    · refine ⟨by simp; omega, fun y hy => ?_⟩
      rcases List.mem_append.mp hy with hy | hy
      · exact (s1' (.tup A) (by simp)).2 y hy
      · simp at hy; subst hy; simp
    · refine ⟨by simp; omega, fun y hy => ?_⟩
      rcases List.mem_append.mp hy with hy | hy
      · exact (s1' (.tup B) (by simp)).2 y hy
      · simp at hy; subst hy; simp
  rw [f169 (k := 193) (t := 6000) (by decide) s2, g2]
  simp [f17]
  refine f78 (k := 196) R (by decide) (by omega) (lim _ (by omega)) fun l hl => ?_
  have hl5 : l.length ≤ 5 := by have := hl.length_le; simp at this; omega
  generalize hhs : (l.map fun (i : Nat) => (i : Int)) = hs
  have hsl : hs.length ≤ 5 := by rw [← hhs]; simpa using hl5
  simp [f170]
  rw [f35 (k := 193) 3 (by simp)]
  simp [tupI, f171]
  rw [f35 (k := 193) 3 (by
    simp
    omega)]
  simp
  have e1 : D.tup (hs.map .int) = tupI hs := rfl
  rw [e1, f172 (k := 197) (by rw [hb.len]; omega) (fun b hbm => by have := hb.sh b hbm; omega)]
  simp
  rw [f177 (k := 197) (fun b hbm => by have := hb.sh b hbm; omega)]
  simp [f17]
  rw [← e1, f171 (k := 197)]
  simp
  have e2 : D.tup [D.tup [D.tup [D.int 0, .int 0, .int 0, .int 0]], D.tup [D.tup (hs.map .int)]] = .tup [D.tup [D.tup [D.int 0, .int 0, .int 0, .int 0]], tupII [hs]] := rfl
  rw [e2, e1, f172 (k := 197) (by simp) (fun b hbm => by simp at hbm; subst hbm; omega)]
  simp [f17]
  refine f126 (k := 195) (most := 8) R (by decide) (lim _ (by omega)) fun ls n3 hls hlb hn3 => ?_
  simp
  have hlb' : ∀ l ∈ ls, 0 ≤ l ∧ l < 4 := hlb
  rw [show itemsD (tupI ls) = some (ls.map .int) from rfl]
  simp
  refine wp_for (I := fun i ρ n' => n' ≤ 5000 ∧ ∃ (s : Int) (y : Sl), ρ = [.un, .val .pool, .val (.int dd), .val (.tup [tupII rs, tupII bs]), x4, .val (.tup [.tup A, .tup B]), .val (tupI hs), .val (tupI ls), .val (.int s), y] ∧ 0 ≤ s ∧ s < N ∧ gAfter rs (ls.drop i) s = gAfter rs ls 0) ⟨by omega, 0, _, rfl, by omega, by omega, rfl⟩ ?_ ?_
  · rintro i d ρ n' hd ⟨hn', s, y, rfl, s0, s1, hgg⟩
    rw [List.getElem?_map, Option.map_eq_some_iff] at hd
    obtain ⟨l, hd, rfl⟩ := hd
    have hm := hlb' l (List.mem_of_getElem? hd)
    obtain ⟨r, t, q1, q2, q3, t0, t1⟩ := g_step hg s0 s1 hm.1 hm.2
    simp [tupII, q1]
    simp [tupI, q2]
    refine ⟨hn', t0, t1, ?_⟩
    have hi : i < ls.length := (List.getElem?_eq_some_iff.mp hd).1
    have hv : ls[i] = l := (List.getElem?_eq_some_iff.mp hd).2
    rw [List.drop_eq_getElem_cons hi, hv] at hgg
    rw [← hgg, q3]
    rfl
  · rintro ρ n' ⟨hn', s, y, rfl, s0, s1, hgg⟩
    simp [gAfter] at hgg
    obtain ⟨i, rfl⟩ : ∃ i : Nat, s = i := ⟨s.toNat, by omega⟩
    have hi : i < bs.length := by rw [hb.len]; omega
    have hbi : atI (bs.map tupI) (i : Int) = some (tupI bs[i]) := atI_nat (j := i) (by simp [hi])
    simp
    rw [f174 (k := 196) (by omega) hg hlb' (by rw [← hgg]; exact hbi)]
    simp [tupII, hbi]
    rw [f35 (k := 195) 1 (by
      have := hb.sh _ (List.getElem_mem hi)
      refine ⟨by simp; omega, fun x hx => ?_⟩
      obtain ⟨v, _, rfl⟩ := List.mem_map.mp hx
      simp)]
end

def top (i : Nat) : Stmt := PySem.Challenge.pw_stewardsight_k17_guards_told.main.body.getD i (.Pass ⟨0, 0, 0, 0⟩)
def StL : Stt := ⟨[(4, (Str.ofString "is_integer")), (5, (Str.ofString "is_number")), (6, (Str.ofString "is_tuple")), (7, (Str.ofString "is_between")), (8, (Str.ofString "is_ascending")), (9, (Str.ofString "are_integers")), (10, (Str.ofString "are_numbers")), (169, (Str.ofString "is_guard")), (170, (Str.ofString "open_guard")), (171, (Str.ofString "shut_guard")), (172, (Str.ofString "bars_only")), (173, (Str.ofString "guard_after")), (174, (Str.ofString "barred_after")), (3, (Str.ofString "_law_draw")), (78, (Str.ofString "_law_some")), (34, (Str.ofString "_law_row")), (126, (Str.ofString "_law_looks")), (175, (Str.ofString "_law_guard")), (16, (Str.ofString "_law_kind")), (35, (Str.ofString "_law_equal")), (17, (Str.ofString "_law_is")), (18, (Str.ofString "_law_int")), (19, (Str.ofString "_law_ints")), (20, (Str.ofString "_law_up")), (21, (Str.ofString "_law_set")), (23, (Str.ofString "_law_bent")), (24, (Str.ofString "_law_bends")), (176, (Str.ofString "_law_is_guard")), (177, (Str.ofString "_law_bars_only"))], [((Str.ofString "MOST_GUARDS"), (D.int 5000)), ((Str.ofString "LOOKS"), (D.tup [(D.int 0), (D.int 1), (D.int 2), (D.int 3)]))]⟩
theorem di_4 : DefIs StL d_4 (top 1) := ⟨fun _ _ _ _ _ _ us hl => match us, hl with | [_], _ => rfl, ⟨rfl, rfl, rfl, by decide +kernel, rfl, by decide +kernel, by decide +kernel⟩, by decide, by decide +kernel⟩
theorem di_5 : DefIs StL d_5 (top 2) := ⟨fun _ _ _ _ _ _ us hl => match us, hl with | [_, _, _], _ => rfl, ⟨rfl, rfl, rfl, by decide +kernel, rfl, by decide +kernel, by decide +kernel⟩, by decide, by decide +kernel⟩
theorem di_6 : DefIs StL d_6 (top 3) := ⟨fun _ _ _ _ _ _ us hl => match us, hl with | [_, _], _ => rfl, ⟨rfl, rfl, rfl, by decide +kernel, rfl, by decide +kernel, by decide +kernel⟩, by decide, by decide +kernel⟩
theorem di_7 : DefIs StL d_7 (top 4) := ⟨fun _ _ _ _ _ _ us hl => match us, hl with | [_, _, _], _ => rfl, ⟨rfl, rfl, rfl, by decide +kernel, rfl, by decide +kernel, by decide +kernel⟩, by decide, by decide +kernel⟩
theorem di_8 : DefIs StL d_8 (top 5) := ⟨fun _ _ _ _ _ _ us hl => match us, hl with | [_], _ => rfl, ⟨rfl, rfl, rfl, by decide +kernel, rfl, by decide +kernel, by decide +kernel⟩, by decide, by decide +kernel⟩
theorem di_9 : DefIs StL d_9 (top 6) := ⟨fun _ _ _ _ _ _ us hl => match us, hl with | [_, _, _], _ => rfl, ⟨rfl, rfl, rfl, by decide +kernel, rfl, by decide +kernel, by decide +kernel⟩, by decide, by decide +kernel⟩
theorem di_10 : DefIs StL d_10 (top 7) := ⟨fun _ _ _ _ _ _ us hl => match us, hl with | [_, _, _], _ => rfl, ⟨rfl, rfl, rfl, by decide +kernel, rfl, by decide +kernel, by decide +kernel⟩, by decide, by decide +kernel⟩
theorem di_169 : DefIs StL d_169 (top 11) := ⟨fun _ _ _ _ _ _ us hl => match us, hl with | [_, _], _ => rfl, ⟨rfl, rfl, rfl, by decide +kernel, rfl, by decide +kernel, by decide +kernel⟩, by decide, by decide +kernel⟩
theorem di_170 : DefIs StL d_170 (top 12) := ⟨fun _ _ _ _ _ _ us hl => match us, hl with | [], _ => rfl, ⟨rfl, rfl, rfl, by decide +kernel, rfl, by decide +kernel, by decide +kernel⟩, by decide, by decide +kernel⟩
theorem di_171 : DefIs StL d_171 (top 13) := ⟨fun _ _ _ _ _ _ us hl => match us, hl with | [_], _ => rfl, ⟨rfl, rfl, rfl, by decide +kernel, rfl, by decide +kernel, by decide +kernel⟩, by decide, by decide +kernel⟩
theorem di_172 : DefIs StL d_172 (top 14) := ⟨fun _ _ _ _ _ _ us hl => match us, hl with | [_, _], _ => rfl, ⟨rfl, rfl, rfl, by decide +kernel, rfl, by decide +kernel, by decide +kernel⟩, by decide, by decide +kernel⟩
theorem di_173 : DefIs StL d_173 (top 15) := ⟨fun _ _ _ _ _ _ us hl => match us, hl with | [_, _], _ => rfl, ⟨rfl, rfl, rfl, by decide +kernel, rfl, by decide +kernel, by decide +kernel⟩, by decide, by decide +kernel⟩
theorem di_174 : DefIs StL d_174 (top 16) := ⟨fun _ _ _ _ _ _ us hl => match us, hl with | [_, _], _ => rfl, ⟨rfl, rfl, rfl, by decide +kernel, rfl, by decide +kernel, by decide +kernel⟩, by decide, by decide +kernel⟩
theorem di_78 : DefIs StL d_78 (top 22) := ⟨fun _ _ _ _ _ _ us hl => match us, hl with | [_, _, _], _ => rfl, ⟨rfl, rfl, rfl, by decide +kernel, rfl, by decide +kernel, by decide +kernel⟩, by decide, by decide +kernel⟩
theorem di_34 : DefIs StL d_34 (top 23) := ⟨fun _ _ _ _ _ _ us hl => match us, hl with | [_, _, _], _ => rfl, ⟨rfl, rfl, rfl, by decide +kernel, rfl, by decide +kernel, by decide +kernel⟩, by decide, by decide +kernel⟩
theorem di_126 : DefIs StL d_126 (top 24) := ⟨fun _ _ _ _ _ _ us hl => match us, hl with | [_, _], _ => rfl, ⟨rfl, rfl, rfl, by decide +kernel, rfl, by decide +kernel, by decide +kernel⟩, by decide, by decide +kernel⟩
theorem di_175 : DefIs StL d_175 (top 25) := ⟨fun _ _ _ _ _ _ us hl => match us, hl with | [_, _, _], _ => rfl, ⟨rfl, rfl, rfl, by decide +kernel, rfl, by decide +kernel, by decide +kernel⟩, by decide, by decide +kernel⟩
theorem di_16 : DefIs StL d_16 (top 26) := ⟨fun _ _ _ _ _ _ us hl => match us, hl with | [_], _ => rfl, ⟨rfl, rfl, rfl, by decide +kernel, rfl, by decide +kernel, by decide +kernel⟩, by decide, by decide +kernel⟩
theorem di_35 : DefIs StL d_35 (top 27) := ⟨fun _ _ _ _ _ _ us hl => match us, hl with | [_, _], _ => rfl, ⟨rfl, rfl, rfl, by decide +kernel, rfl, by decide +kernel, by decide +kernel⟩, by decide, by decide +kernel⟩
theorem di_17 : DefIs StL d_17 (top 28) := ⟨fun _ _ _ _ _ _ us hl => match us, hl with | [_, _], _ => rfl, ⟨rfl, rfl, rfl, by decide +kernel, rfl, by decide +kernel, by decide +kernel⟩, by decide, by decide +kernel⟩
theorem di_18 : DefIs StL d_18 (top 29) := ⟨fun _ _ _ _ _ _ us hl => match us, hl with | [_, _, _], _ => rfl, ⟨rfl, rfl, rfl, by decide +kernel, rfl, by decide +kernel, by decide +kernel⟩, by decide, by decide +kernel⟩
theorem di_19 : DefIs StL d_19 (top 30) := ⟨fun _ _ _ _ _ _ us hl => match us, hl with | [_, _, _], _ => rfl, ⟨rfl, rfl, rfl, by decide +kernel, rfl, by decide +kernel, by decide +kernel⟩, by decide, by decide +kernel⟩
theorem di_20 : DefIs StL d_20 (top 31) := ⟨fun _ _ _ _ _ _ us hl => match us, hl with | [_], _ => rfl, ⟨rfl, rfl, rfl, by decide +kernel, rfl, by decide +kernel, by decide +kernel⟩, by decide, by decide +kernel⟩
theorem di_21 : DefIs StL d_21 (top 32) := ⟨fun _ _ _ _ _ _ us hl => match us, hl with | [_, _, _], _ => rfl, ⟨rfl, rfl, rfl, by decide +kernel, rfl, by decide +kernel, by decide +kernel⟩, by decide, by decide +kernel⟩
theorem di_23 : DefIs StL d_23 (top 33) := ⟨fun _ _ _ _ _ _ us hl => match us, hl with | [_, _], _ => rfl, ⟨rfl, rfl, rfl, by decide +kernel, rfl, by decide +kernel, by decide +kernel⟩, by decide, by decide +kernel⟩
theorem di_24 : DefIs StL d_24 (top 34) := ⟨fun _ _ _ _ _ _ us hl => match us, hl with | [_, _, _], _ => rfl, ⟨rfl, rfl, rfl, by decide +kernel, rfl, by decide +kernel, by decide +kernel⟩, by decide, by decide +kernel⟩
theorem di_176 : DefIs StL d_176 (top 35) := ⟨fun _ _ _ _ _ _ us hl => match us, hl with | [_, _], _ => rfl, ⟨rfl, rfl, rfl, by decide +kernel, rfl, by decide +kernel, by decide +kernel⟩, by decide, by decide +kernel⟩
theorem di_177 : DefIs StL d_177 (top 36) := ⟨fun _ _ _ _ _ _ us hl => match us, hl with | [_, _], _ => rfl, ⟨rfl, rfl, rfl, by decide +kernel, rfl, by decide +kernel, by decide +kernel⟩, by decide, by decide +kernel⟩
theorem di_p0 : DefIs St0 cellD (top 18) := ⟨fun _ _ _ _ _ _ us hl => match us, hl with | [_, _], _ => rfl, ⟨rfl, rfl, rfl, by decide +kernel, rfl, by decide +kernel, by decide +kernel⟩, by decide, by decide +kernel⟩
theorem di_p1 : DefIs St0 numD (top 19) := ⟨fun _ _ _ _ _ _ us hl => match us, hl with | [_, _], _ => rfl, ⟨rfl, rfl, rfl, by decide +kernel, rfl, by decide +kernel, by decide +kernel⟩, by decide, by decide +kernel⟩
theorem di_p2 : DefIs St0 poolD (top 20) := ⟨fun _ _ _ _ _ _ us hl => match us, hl with | [_], _ => rfl, ⟨rfl, rfl, rfl, by decide +kernel, rfl, by decide +kernel, by decide +kernel⟩, by decide, by decide +kernel⟩
theorem draw_b : DrawBody (defBody (top 21)) := .mk _ _ _ _ _ _ _ _ _ _ _ _ _ _ _ _ _ _ _ _ _ _ _ _ _ _ _ _ _ _ _ _ _ _ _ _ _ _ _ _ _ _ _ _ _ _ _ _ _ _ _
theorem draw_d : BindOk "_law_draw" (top 21) ["pool", "many"] := fun _ _ _ _ _ _ us hl => match us, hl with | [_, _], _ => rfl
theorem all_mk {w : World} {K : PySem.W.Frag} {h : Heap} {mg : Str → Option Value} {fa : Addr} (X : K.In h) (G : h.Ns mainGlobals mg) (hfa : mg "law" = some (.ref fa))
    (a_0 : Fact K (Str.ofString "_law_cell") (top 18)) (a_1 : Fact K (Str.ofString "_law_numbers") (top 19)) (a_2 : Fact K (Str.ofString "_law_pool") (top 20)) (a_3 : Fact K (Str.ofString "is_integer") (top 1)) (a_4 : Fact K (Str.ofString "is_number") (top 2)) (a_5 : Fact K (Str.ofString "is_tuple") (top 3)) (a_6 : Fact K (Str.ofString "is_between") (top 4)) (a_7 : Fact K (Str.ofString "is_ascending") (top 5)) (a_8 : Fact K (Str.ofString "are_integers") (top 6)) (a_9 : Fact K (Str.ofString "are_numbers") (top 7)) (a_10 : Fact K (Str.ofString "is_guard") (top 11)) (a_11 : Fact K (Str.ofString "open_guard") (top 12)) (a_12 : Fact K (Str.ofString "shut_guard") (top 13)) (a_13 : Fact K (Str.ofString "bars_only") (top 14)) (a_14 : Fact K (Str.ofString "guard_after") (top 15)) (a_15 : Fact K (Str.ofString "barred_after") (top 16)) (a_16 : Fact K (Str.ofString "_law_draw") (top 21)) (a_17 : Fact K (Str.ofString "_law_some") (top 22)) (a_18 : Fact K (Str.ofString "_law_row") (top 23)) (a_19 : Fact K (Str.ofString "_law_looks") (top 24)) (a_20 : Fact K (Str.ofString "_law_guard") (top 25)) (a_21 : Fact K (Str.ofString "_law_kind") (top 26)) (a_22 : Fact K (Str.ofString "_law_equal") (top 27)) (a_23 : Fact K (Str.ofString "_law_is") (top 28)) (a_24 : Fact K (Str.ofString "_law_int") (top 29)) (a_25 : Fact K (Str.ofString "_law_ints") (top 30)) (a_26 : Fact K (Str.ofString "_law_up") (top 31)) (a_27 : Fact K (Str.ofString "_law_set") (top 32)) (a_28 : Fact K (Str.ofString "_law_bent") (top 33)) (a_29 : Fact K (Str.ofString "_law_bends") (top 34)) (a_30 : Fact K (Str.ofString "_law_is_guard") (top 35)) (a_31 : Fact K (Str.ofString "_law_bars_only") (top 36)) (a_32 : Fact K (Str.ofString "law") (top 37)) (c_0 : ConstIs K ((Str.ofString "MOST_GUARDS"), (D.int 5000))) (c_1 : ConstIs K ((Str.ofString "LOOKS"), (D.tup [(D.int 0), (D.int 1), (D.int 2), (D.int 3)]))) (z_0 : PySem.W.nsIn K mainGlobals (Str.ofString "len") = some none) (z_1 : PySem.W.nsIn K mainGlobals (Str.ofString "all") = some none) (z_2 : PySem.W.nsIn K mainGlobals (Str.ofString "any") = some none) (z_3 : PySem.W.nsIn K mainGlobals (Str.ofString "sum") = some none) (z_4 : PySem.W.nsIn K mainGlobals (Str.ofString "max") = some none) (z_5 : PySem.W.nsIn K mainGlobals (Str.ofString "min") = some none) (z_6 : PySem.W.nsIn K mainGlobals (Str.ofString "int") = some none) (z_7 : PySem.W.nsIn K mainGlobals (Str.ofString "str") = some none) (z_8 : PySem.W.nsIn K mainGlobals (Str.ofString "tuple") = some none) (z_9 : PySem.W.nsIn K mainGlobals (Str.ofString "list") = some none) (z_10 : PySem.W.nsIn K mainGlobals (Str.ofString "sorted") = some none) (z_11 : PySem.W.nsIn K mainGlobals (Str.ofString "bool") = some none) (z_12 : PySem.W.nsIn K mainGlobals (Str.ofString "isinstance") = some none) (z_13 : PySem.W.nsIn K mainGlobals (Str.ofString "range") = some none) (z_14 : PySem.W.nsIn K mainGlobals (Str.ofString "zip") = some none) (z_15 : PySem.W.nsIn K mainGlobals (Str.ofString "enumerate") = some none) (z_16 : PySem.W.nsIn K mainGlobals (Str.ofString "dict") = some none)
    (lawP : ∀ rows : List Int, 24 ≤ rows.length → rows.length ≤ 144 → wp (xSs (callF (tab rows) (196 + 2)) lawB (lawR lawN)) 0 fun o _ => o = .rt (.bool true)) :
    ∃ fd : FuncData, (∀ (s : Shared) (u : Value), BindsTo s fd ⟨[u], []⟩ [("script", u)]) ∧ ∀ base : Heap, K.In base → base.Ns mainGlobals mg → FnOk PySem.Challenge.pw_stewardsight_k17_guards_told w K mg base CX0 200 fa fd ["script"] (spLaw K) := by
  have bi : AllS (fun x => PySem.W.nsIn K mainGlobals x = some none) biNames := ⟨z_0, z_1, z_2, z_3, z_4, z_5, z_6, z_7, z_8, z_9, z_10, z_11, z_12, z_13, z_14, z_15, z_16, trivial⟩
  have bm : ∀ x ∈ biNames, mg x = none := fun x hx => PySem.W.mg_none_of X G (bi.get hx)
  have cn : AllC (ConstIs K) StL.cns := ⟨c_0, c_1, trivial⟩
  obtain ⟨f, fd, kV, dc, pm, an, cd, ct, e, F, rfl⟩ := a_32
  have e := hfa.symm.trans (PySem.W.mg_of X G e)
  cases e
  refine ⟨PySem.W.fnOf "law" "law" (defArgs (top 37)) (defBody (top 37)) (defScope (top 37)) .none kV dc pm an cd ct, fun s v => .of_eq rfl, fun base _ _ => ?_⟩
  refine law_ok (st := top 37) (T := tab) (N := lawN) (lawB := lawB) (St := StL) F ⟨rfl, rfl, rfl, by decide +kernel, rfl, by decide +kernel, by decide +kernel⟩ (by decide) rfl (by decide +kernel) (by decide +kernel) ?_ ?_ lawP
  · exact tab_mk X G rfl bi trivial ⟨fn_defn X G t0_0 rfl di_p0 a_0, fn_defn X G t0_1 rfl di_p1 a_1, fn_defn X G t0_2 rfl di_p2 a_2, trivial⟩
  · intro g hl hK
    exact tab_mk X G hK bi cn ⟨fn_defn X G tab_4 rfl di_4 a_3, fn_defn X G tab_5 rfl di_5 a_4, fn_defn X G tab_6 rfl di_6 a_5, fn_defn X G tab_7 rfl di_7 a_6, fn_defn X G tab_8 rfl di_8 a_7, fn_defn X G tab_9 rfl di_9 a_8, fn_defn X G tab_10 rfl di_10 a_9, fn_defn X G tab_169 rfl di_169 a_10, fn_defn X G tab_170 rfl di_170 a_11, fn_defn X G tab_171 rfl di_171 a_12, fn_defn X G tab_172 rfl di_172 a_13, fn_defn X G tab_173 rfl di_173 a_14, fn_defn X G tab_174 rfl di_174 a_15, fn_draw (st := top 21) X G hl tab_3 rfl draw_b draw_d bm a_16, fn_defn X G tab_78 rfl di_78 a_17, fn_defn X G tab_34 rfl di_34 a_18, fn_defn X G tab_126 rfl di_126 a_19, fn_defn X G tab_175 rfl di_175 a_20, fn_defn X G tab_16 rfl di_16 a_21, fn_defn X G tab_35 rfl di_35 a_22, fn_defn X G tab_17 rfl di_17 a_23, fn_defn X G tab_18 rfl di_18 a_24, fn_defn X G tab_19 rfl di_19 a_25, fn_defn X G tab_20 rfl di_20 a_26, fn_defn X G tab_21 rfl di_21 a_27, fn_defn X G tab_23 rfl di_23 a_28, fn_defn X G tab_24 rfl di_24 a_29, fn_defn X G tab_176 rfl di_176 a_30, fn_defn X G tab_177 rfl di_177 a_31, trivial⟩
end Ev
open PySem PySem.W PyProof.Rows
set_option maxRecDepth 100000 in
set_option maxHeartbeats 0 in
theorem PySem.Challenge.cw_stewardsight_k17_guards_told_holds : PySem.Challenge.rw_stewardsight_k17_guards_told.Holds := by
  w_on; o_law; k_head; (case hw => w_witness2)
  k_fill
  refine Ev.walk (l := PySem.Challenge.rw_stewardsight_k17_guards_told) (k := 200) rfl rfl Ev.room_200 (fun w h Y => PySem.W.kIn_of Y) ?F
  case F =>
    intro w mg fa h KX G hmg
    refine' Ev.all_mk KX G hmg (Ev.fact_mk ?a0 ?l0 ?c0 ?k0) (Ev.fact_mk ?a1 ?l1 ?c1 ?k1) (Ev.fact_mk ?a2 ?l2 ?c2 ?k2) (Ev.fact_mk ?a3 ?l3 ?c3 ?k3) (Ev.fact_mk ?a4 ?l4 ?c4 ?k4) (Ev.fact_mk ?a5 ?l5 ?c5 ?k5) (Ev.fact_mk ?a6 ?l6 ?c6 ?k6) (Ev.fact_mk ?a7 ?l7 ?c7 ?k7) (Ev.fact_mk ?a8 ?l8 ?c8 ?k8) (Ev.fact_mk ?a9 ?l9 ?c9 ?k9) (Ev.fact_mk ?a10 ?l10 ?c10 ?k10) (Ev.fact_mk ?a11 ?l11 ?c11 ?k11) (Ev.fact_mk ?a12 ?l12 ?c12 ?k12) (Ev.fact_mk ?a13 ?l13 ?c13 ?k13) (Ev.fact_mk ?a14 ?l14 ?c14 ?k14) (Ev.fact_mk ?a15 ?l15 ?c15 ?k15) (Ev.fact_mk ?a16 ?l16 ?c16 ?k16) (Ev.fact_mk ?a17 ?l17 ?c17 ?k17) (Ev.fact_mk ?a18 ?l18 ?c18 ?k18) (Ev.fact_mk ?a19 ?l19 ?c19 ?k19) (Ev.fact_mk ?a20 ?l20 ?c20 ?k20) (Ev.fact_mk ?a21 ?l21 ?c21 ?k21) (Ev.fact_mk ?a22 ?l22 ?c22 ?k22) (Ev.fact_mk ?a23 ?l23 ?c23 ?k23) (Ev.fact_mk ?a24 ?l24 ?c24 ?k24) (Ev.fact_mk ?a25 ?l25 ?c25 ?k25) (Ev.fact_mk ?a26 ?l26 ?c26 ?k26) (Ev.fact_mk ?a27 ?l27 ?c27 ?k27) (Ev.fact_mk ?a28 ?l28 ?c28 ?k28) (Ev.fact_mk ?a29 ?l29 ?c29 ?k29) (Ev.fact_mk ?a30 ?l30 ?c30 ?k30) (Ev.fact_mk ?a31 ?l31 ?c31 ?k31) (Ev.fact_mk ?a32 ?l32 ?c32 ?k32) (Ev.const_int ?v0) (Ev.const_tup (is := [0, 1, 2, 3]) ?v1 ?w1 ?h1 (by decide)) ?z0 ?z1 ?z2 ?z3 ?z4 ?z5 ?z6 ?z7 ?z8 ?z9 ?z10 ?z11 ?z12 ?z13 ?z14 ?z15 ?z16 Ev.law_proof
    (case a0 => k_is); (case l0 => k_is); (case c0 => k_is); (case k0 => k_is)
    (case a1 => k_is); (case l1 => k_is); (case c1 => k_is); (case k1 => k_is)
    (case a2 => k_is); (case l2 => k_is); (case c2 => k_is); (case k2 => k_is)
    (case a3 => k_is); (case l3 => k_is); (case c3 => k_is); (case k3 => k_is)
    (case a4 => k_is); (case l4 => k_is); (case c4 => k_is); (case k4 => k_is)
    (case a5 => k_is); (case l5 => k_is); (case c5 => k_is); (case k5 => k_is)
    (case a6 => k_is); (case l6 => k_is); (case c6 => k_is); (case k6 => k_is)
    (case a7 => k_is); (case l7 => k_is); (case c7 => k_is); (case k7 => k_is)
    (case a8 => k_is); (case l8 => k_is); (case c8 => k_is); (case k8 => k_is)
    (case a9 => k_is); (case l9 => k_is); (case c9 => k_is); (case k9 => k_is)
    (case a10 => k_is); (case l10 => k_is); (case c10 => k_is); (case k10 => k_is)
    (case a11 => k_is); (case l11 => k_is); (case c11 => k_is); (case k11 => k_is)
    (case a12 => k_is); (case l12 => k_is); (case c12 => k_is); (case k12 => k_is)
    (case a13 => k_is); (case l13 => k_is); (case c13 => k_is); (case k13 => k_is)
    (case a14 => k_is); (case l14 => k_is); (case c14 => k_is); (case k14 => k_is)
    (case a15 => k_is); (case l15 => k_is); (case c15 => k_is); (case k15 => k_is)
    (case a16 => k_is); (case l16 => k_is); (case c16 => k_is); (case k16 => k_is)
    (case a17 => k_is); (case l17 => k_is); (case c17 => k_is); (case k17 => k_is)
    (case a18 => k_is); (case l18 => k_is); (case c18 => k_is); (case k18 => k_is)
    (case a19 => k_is); (case l19 => k_is); (case c19 => k_is); (case k19 => k_is)
    (case a20 => k_is); (case l20 => k_is); (case c20 => k_is); (case k20 => k_is)
    (case a21 => k_is); (case l21 => k_is); (case c21 => k_is); (case k21 => k_is)
    (case a22 => k_is); (case l22 => k_is); (case c22 => k_is); (case k22 => k_is)
    (case a23 => k_is); (case l23 => k_is); (case c23 => k_is); (case k23 => k_is)
    (case a24 => k_is); (case l24 => k_is); (case c24 => k_is); (case k24 => k_is)
    (case a25 => k_is); (case l25 => k_is); (case c25 => k_is); (case k25 => k_is)
    (case a26 => k_is); (case l26 => k_is); (case c26 => k_is); (case k26 => k_is)
    (case a27 => k_is); (case l27 => k_is); (case c27 => k_is); (case k27 => k_is)
    (case a28 => k_is); (case l28 => k_is); (case c28 => k_is); (case k28 => k_is)
    (case a29 => k_is); (case l29 => k_is); (case c29 => k_is); (case k29 => k_is)
    (case a30 => k_is); (case l30 => k_is); (case c30 => k_is); (case k30 => k_is)
    (case a31 => k_is); (case l31 => k_is); (case c31 => k_is); (case k31 => k_is)
    (case a32 => k_is); (case l32 => k_is); (case c32 => k_is); (case k32 => k_is)
    (case v0 => k_is)
    (case v1 => k_is)
    (case w1 => k_is); (case h1 => rfl)
    (case z0 => k_is)
    (case z1 => k_is)
    (case z2 => k_is)
    (case z3 => k_is)
    (case z4 => k_is)
    (case z5 => k_is)
    (case z6 => k_is)
    (case z7 => k_is)
    (case z8 => k_is)
    (case z9 => k_is)
    (case z10 => k_is)
    (case z11 => k_is)
    (case z12 => k_is)
    (case z13 => k_is)
    (case z14 => k_is)
    (case z15 => k_is)
    (case z16 => k_is)
